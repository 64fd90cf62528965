import PyProof.Rows.All
import Wide.All
import OpenK.AllK
import Wide.FinOn
import HandS.ForMost
import HandS.ForExc
import HandS.SortInts
import HandS.Wide
import HandS.IsInst
import HandS.Flow
import HandS.Style
import HandS.Lambda
import HandS.EndTab
import HandS.CallSlots
import HandS.ExcOwn
import HandS.Deep
import HandS.SortRule
import KE.DataMinMax
import HandS.ExcInit
import HandS.ExcField
import HandS.ClsMeth
import PyProof.ReprRoads
import PyProof.CallFns
import HandS.Conv
import HandS.Defaults
import PyProof.ReprLen
import PyProof.Rows.RegStrFacts
import HandS.TryOnly
import HandS.More
import HandS.Zip
import PyProof.StrLawsRepr
import HandS.OwnEq
import OpenK.KWalk
import OpenK.KOps
import HandS.DictComp
import HandS.DictTup
import HandS.TupLen
import HandS.DictSubView
import KE.SortData
import KE.KDictSum
import KE.KDictCopyH
import HandS.Small
import HandS.SortKw
import KE.SortKeyHeap
import KE.KExcIs
import KE.GoesEnum
import KE.GoesZip
import KE.GoesMore
import KE.KUnpackStar
import KE.KDictPairs
import KE.KDictKeyed
import PySem.Challenge.RW_firenegatives_k21_whole_cycles_in_closed
set_option Elab.async false
set_option linter.all false
set_option maxRecDepth 100000
set_option maxHeartbeats 4000000
/-! A logic without heaps over the hand layer: data D, trees of one's own O, contexts of slots; worlds: frozen, all, kept cells. -/
namespace Z
open PySem L2

inductive D where
  | non | bl (b : Bool) | int (i : Int) | str (x : Str)
  | lst (ds : List D) | tup (ds : List D)
  | scr (ns : List Int) | pool | any | val (v : V)
  | ins (C : Addr) (ns : List Str) (ds : List D)
  | dic (b : Addr) (ks : List Key) (ds : List D)
  | memo (d : D) | tab (q : Str)
  | exc (a dd : Addr) (d : D)

/-- F: what never changes again; H: all; M: the cells that are kept (pools, tables, memos) -/
structure Wd where
  F : Hp
  H : Hp
  M : Addr → Option D
structure Le (S T : Wd) : Prop where
  fz : ∀ a o, S.F a = some o → T.F a = some o
  mu : ∀ a k, S.M a = some k → T.M a = some k
mutual
def Rp (K : PySem.W.Frag) (S : Wd) : D → V → Prop
  | .non, v => v = .non
  | .bl b, v => v = .bl b
  | .int i, v => v = .int i
  | .str x, v => v = .str x
  | .lst ds, v => ∃ a xs, v = .ref a ∧ S.F a = some (.lst xs) ∧ RpL K S ds xs
  | .tup ds, v => ∃ a xs, v = .ref a ∧ SqT K S.F a xs ∧ RpL K S ds xs
  | .scr ns, v => ∃ a, v = .ref a ∧ SqL K S.F a (ns.map V.int)
  | .pool, v => ∃ a, v = .ref a ∧ S.M a = some .pool
  | .any, _ => True
  | .val u, v => v = u
  | .ins C ns ds, v => ∃ a dx fs, v = .ref a ∧ S.F a = some (.ins C dx fs) ∧ fs.map (·.1) = ns ∧ RpL K S ds (fs.map (·.2))
  | .dic a ks ds, v => ∃ kvs, v = .ref a ∧ S.F a = some (.dK kvs) ∧ kvs.map (·.1) = ks ∧ RpL K S ds (kvs.map (·.2))
  | .memo d, v => ∃ a, v = .ref a ∧ S.M a = some (.memo d)
  | .tab q, v => ∃ a, v = .ref a ∧ S.M a = some (.tab q)
  | .exc a dd d, v => v = .ref a ∧ ∃ w, S.F dd = some (.xd [("value", w)]) ∧ Rp K S d w
def RpL (K : PySem.W.Frag) (S : Wd) : List D → List V → Prop
  | [], xs => xs = []
  | d :: ds, xs => ∃ y ys, xs = y :: ys ∧ Rp K S d y ∧ RpL K S ds ys
end
theorem rd_mono {F G : Hp} {a : Addr} {u : HO} (h : ∀ a o, F a = some o → G a = some o) (r : Rd F a u) : Rd G a u := by
  rcases r with r | ⟨o, r⟩
  · exact .inl (h _ _ r)
  · exact .inr ⟨o, h _ _ r⟩
theorem sqt_mono {K : PySem.W.Frag} {F G : Hp} {a : Addr} {xs : List V} (h : ∀ a o, F a = some o → G a = some o) (r : SqT K F a xs) : SqT K G a xs := by
  rcases r with r | r
  · exact .inl (rd_mono h r)
  · exact .inr r
theorem sql_mono {K : PySem.W.Frag} {F G : Hp} {a : Addr} {xs : List V} (h : ∀ a o, F a = some o → G a = some o) (r : SqL K F a xs) : SqL K G a xs := by
  rcases r with r | r
  · exact .inl (rd_mono h r)
  · exact .inr r
mutual
theorem Rp.mono {K : PySem.W.Frag} {S T : Wd} (l : Le S T) : ∀ {d : D} {v : V}, Rp K S d v → Rp K T d v
  | .non, v, h => by unfold Rp at h ⊢; exact h
  | .bl b, v, h => by unfold Rp at h ⊢; exact h
  | .int i, v, h => by unfold Rp at h ⊢; exact h
  | .str x, v, h => by unfold Rp at h ⊢; exact h
  | .lst ds, v, h => by
    unfold Rp at h ⊢
    obtain ⟨a, xs, e, f, r⟩ := h
    exact ⟨a, xs, e, l.fz _ _ f, RpL.mono l r⟩
  | .tup ds, v, h => by
    unfold Rp at h ⊢
    obtain ⟨a, xs, e, f, r⟩ := h
    exact ⟨a, xs, e, sqt_mono l.fz f, RpL.mono l r⟩
  | .scr ns, v, h => by
    unfold Rp at h ⊢
    obtain ⟨a, e, f⟩ := h
    exact ⟨a, e, sql_mono l.fz f⟩
  | .pool, v, h => by
    unfold Rp at h ⊢
    obtain ⟨a, e, f⟩ := h
    exact ⟨a, e, l.mu _ _ f⟩
  | .any, v, h => by unfold Rp at h ⊢; exact h
  | .val u, v, h => by unfold Rp at h ⊢; exact h
  | .ins C ns ds, v, h => by
    unfold Rp at h ⊢
    obtain ⟨a, dx, fs, e, f, n, r⟩ := h
    exact ⟨a, dx, fs, e, l.fz _ _ f, n, RpL.mono l r⟩
  | .dic a ks ds, v, h => by
    unfold Rp at h ⊢
    obtain ⟨fs, e, f, n, r⟩ := h
    exact ⟨fs, e, l.fz _ _ f, n, RpL.mono l r⟩
  | .memo d, v, h => by
    unfold Rp at h ⊢
    obtain ⟨a, e, f⟩ := h
    exact ⟨a, e, l.mu _ _ f⟩
  | .tab d, v, h => by
    unfold Rp at h ⊢
    obtain ⟨a, e, f⟩ := h
    exact ⟨a, e, l.mu _ _ f⟩
  | .exc a dd d, v, h => by
    unfold Rp at h ⊢
    obtain ⟨e, w, f, r⟩ := h
    exact ⟨e, w, l.fz _ _ f, Rp.mono l r⟩
theorem RpL.mono {K : PySem.W.Frag} {S T : Wd} (l : Le S T) : ∀ {ds : List D} {vs : List V}, RpL K S ds vs → RpL K T ds vs
  | [], vs, h => by unfold RpL at h ⊢; exact h
  | d :: ds, vs, h => by
    unfold RpL at h ⊢
    obtain ⟨y, ys, e, r, t⟩ := h
    exact ⟨y, ys, e, Rp.mono l r, RpL.mono l t⟩
end
/-- the empty written part -/
def K0 : PySem.W.Frag := []
theorem sqt_K0 {K : PySem.W.Frag} {F : Hp} {a : Addr} {xs : List V} (h : SqT K0 F a xs) : SqT K F a xs := by
  rcases h with h | ⟨o, its, n, e, _⟩
  · exact .inl h
  · cases e
theorem sql_K0 {K : PySem.W.Frag} {F : Hp} {a : Addr} {xs : List V} (h : SqL K0 F a xs) : SqL K F a xs := by
  rcases h with h | ⟨o, its, n, e, _⟩
  · exact .inl h
  · cases e
mutual
theorem Rp.k0 {K : PySem.W.Frag} {S : Wd} : ∀ {d : D} {v : V}, Rp K0 S d v → Rp K S d v
  | .non, v, h => by unfold Rp at h ⊢; exact h
  | .bl b, v, h => by unfold Rp at h ⊢; exact h
  | .int i, v, h => by unfold Rp at h ⊢; exact h
  | .str x, v, h => by unfold Rp at h ⊢; exact h
  | .lst ds, v, h => by
    unfold Rp at h ⊢
    obtain ⟨a, xs, e, f, r⟩ := h
    exact ⟨a, xs, e, f, RpL.k0 r⟩
  | .tup ds, v, h => by
    unfold Rp at h ⊢
    obtain ⟨a, xs, e, f, r⟩ := h
    exact ⟨a, xs, e, sqt_K0 f, RpL.k0 r⟩
  | .scr ns, v, h => by
    unfold Rp at h ⊢
    obtain ⟨a, e, f⟩ := h
    exact ⟨a, e, sql_K0 f⟩
  | .pool, v, h => by unfold Rp at h ⊢; exact h
  | .any, v, h => by unfold Rp at h ⊢; exact h
  | .val u, v, h => by unfold Rp at h ⊢; exact h
  | .ins C ns ds, v, h => by
    unfold Rp at h ⊢
    obtain ⟨a, dx, fs, e, f, n, r⟩ := h
    exact ⟨a, dx, fs, e, f, n, RpL.k0 r⟩
  | .dic a ks ds, v, h => by
    unfold Rp at h ⊢
    obtain ⟨fs, e, f, n, r⟩ := h
    exact ⟨fs, e, f, n, RpL.k0 r⟩
  | .memo d, v, h => by unfold Rp at h ⊢; exact h
  | .tab d, v, h => by unfold Rp at h ⊢; exact h
  | .exc a dd d, v, h => by
    unfold Rp at h ⊢
    obtain ⟨e, w, f, r⟩ := h
    exact ⟨e, w, f, Rp.k0 r⟩
theorem RpL.k0 {K : PySem.W.Frag} {S : Wd} : ∀ {ds : List D} {vs : List V}, RpL K0 S ds vs → RpL K S ds vs
  | [], vs, h => by unfold RpL at h ⊢; exact h
  | d :: ds, vs, h => by
    unfold RpL at h ⊢
    obtain ⟨y, ys, e, r, t⟩ := h
    exact ⟨y, ys, e, Rp.k0 r, RpL.k0 t⟩
end
/-- what is true of a kept cell -/
def KInv (S : Wd) : D → Addr → Prop
  | .pool, a => ∃ x y, S.H a = some (.lst [.int x, .int y]) ∧ 0 ≤ y ∧ y < 4294967296
  | .memo d, a => ∃ kvs : List (Key × V), S.H a = some (.dK kvs) ∧ (kvs = [] ∨ ∃ v, kvs = [(.inr "parts", v)] ∧ Rp K0 S d v)
  | .tab q, a => ∃ ps : Array Value, S.H a = some (.tbl ps) ∧ TriplesOk ps.toList ∧ ∀ (pos : Pos) (cv : Value), codeAmong pos ps.toList = some cv → ∃ c, cv = .ref c ∧ S.F c = some (LamX.CodeO c q)
  | _, _ => False
theorem KInv.there {S : Wd} {k : D} {a : Addr} (h : KInv S k a) : ∃ o, S.H a = some o := by
  cases k <;> first | exact h.elim | skip
  · obtain ⟨x, y, e, _⟩ := h
    exact ⟨_, e⟩
  · obtain ⟨kvs, e, _⟩ := h
    exact ⟨_, e⟩
  · obtain ⟨ps, e, _⟩ := h
    exact ⟨_, e⟩
theorem KInv.stay {S T : Wd} {k : D} {a : Addr} (h : KInv S k a) (l : Le S T) (e : T.H a = S.H a) : KInv T k a := by
  cases k <;> first | exact h.elim | skip
  · obtain ⟨x, y, q, b⟩ := h
    exact ⟨x, y, e.trans q, b⟩
  · obtain ⟨kvs, q, b⟩ := h
    refine ⟨kvs, e.trans q, b.imp id fun ⟨v, h1, h2⟩ => ⟨v, h1, h2.mono l⟩⟩
  · obtain ⟨ps, q, t, c⟩ := h
    refine ⟨ps, e.trans q, t, fun pos cv hc => ?_⟩
    obtain ⟨c, e1, e2⟩ := c pos cv hc
    exact ⟨c, e1, l.fz _ _ e2⟩
structure Wd.Ok (S : Wd) : Prop where
  sub : ∀ a o, S.F a = some o → S.H a = some o
  kd : ∀ a k, S.M a = some k → S.F a = none ∧ KInv S k a
  cod : ∀ c q, S.H c = some (LamX.CodeO c q) → S.F c = some (LamX.CodeO c q)
/-- no code object -/
def NoCode (o : HO) : Prop := ∀ c q, o ≠ LamX.CodeO c q
theorem Wd.Ok.pool {S : Wd} (h : S.Ok) (a : Addr) (e : S.M a = some .pool) : S.F a = none ∧ ∃ x y, S.H a = some (.lst [.int x, .int y]) ∧ 0 ≤ y ∧ y < 4294967296 := h.kd a _ e
structure Gr (S T : Wd) : Prop where
  oS : S.Ok
  ok : T.Ok
  fz : ∀ a o, S.F a = some o → T.F a = some o
  hp : ∀ a o, S.H a = some o → S.M a = none → T.H a = some o
  fr : ∀ a o, S.H a = some o → S.F a = none → T.F a = none
  mu : ∀ a o, S.H a = some o → T.M a = S.M a
theorem Gr.refl {S : Wd} (h : S.Ok) : Gr S S := ⟨h, h, fun _ _ e => e, fun _ _ e _ => e, fun _ _ _ e => e, fun _ _ _ => rfl⟩
theorem Gr.le {S T : Wd} (g : Gr S T) : Le S T := ⟨g.fz, fun a k e => by
  obtain ⟨o, h⟩ := (g.oS.kd a k e).2.there
  rw [g.mu a _ h, e]⟩
theorem Gr.there {S T : Wd} (g : Gr S T) {a : Addr} {o : HO} (h : S.H a = some o) : ∃ u, T.H a = some u := by
  cases e : S.M a with
  | none => exact ⟨o, g.hp a o h e⟩
  | some k => exact (g.ok.kd a k (g.le.mu a k e)).2.there
theorem Gr.trans {S T U : Wd} (a : Gr S T) (b : Gr T U) : Gr S U where
  oS := a.oS
  ok := b.ok
  fz := fun x o h => b.fz x o (a.fz x o h)
  hp := fun x o h m => b.hp x o (a.hp x o h m) ((a.mu x o h).trans m)
  fr := fun x o h n => by
    obtain ⟨u, q⟩ := a.there h
    exact b.fr x u q (a.fr x o h n)
  mu := fun x o h => by
    obtain ⟨u, q⟩ := a.there h
    rw [b.mu x u q, a.mu x o h]
theorem Gr.new {S T : Wd} (g : Gr S T) {p : Addr} (h : T.H p = none) : S.H p = none := by
  cases e : S.H p with
  | none => rfl
  | some o =>
    obtain ⟨u, q⟩ := g.there e
    rw [q] at h
    cases h
theorem Wd.Ok.fnone {S : Wd} (h : S.Ok) {p : Addr} (e : S.H p = none) : S.F p = none := by
  cases q : S.F p with
  | none => rfl
  | some o => rw [h.sub p o q] at e; cases e
theorem Wd.Ok.mnone {S : Wd} (h : S.Ok) {p : Addr} (e : S.H p = none) : S.M p = none := by
  cases q : S.M p with
  | none => rfl
  | some k =>
    obtain ⟨o, z⟩ := (h.kd p k q).2.there
    rw [z] at e; cases e
theorem Wd.Ok.mfz {S : Wd} (h : S.Ok) {p : Addr} {o : HO} (e : S.F p = some o) : S.M p = none := by
  cases q : S.M p with
  | none => rfl
  | some k =>
    have z := (h.kd p k q).1
    rw [z] at e; cases e
theorem Rp.int {K : PySem.W.Frag} {S : Wd} {i : Int} {v : V} (h : Rp K S (.int i) v) : v = .int i := by unfold Rp at h; exact h
theorem RpL.nil {K : PySem.W.Frag} {S : Wd} : RpL K S [] [] := by unfold RpL; rfl
theorem RpL.cons {K : PySem.W.Frag} {S : Wd} {d : D} {ds : List D} {v : V} {vs : List V} (h : Rp K S d v) (t : RpL K S ds vs) : RpL K S (d :: ds) (v :: vs) := by unfold RpL; exact ⟨v, vs, rfl, h, t⟩
theorem RpL.nil_inv {K : PySem.W.Frag} {S : Wd} {vs : List V} (h : RpL K S [] vs) : vs = [] := by unfold RpL at h; exact h
theorem RpL.cons_inv {K : PySem.W.Frag} {S : Wd} {d : D} {ds : List D} {vs : List V} (h : RpL K S (d :: ds) vs) : ∃ y ys, vs = y :: ys ∧ Rp K S d y ∧ RpL K S ds ys := by unfold RpL at h; exact h
theorem RpL.length {K : PySem.W.Frag} {S : Wd} : ∀ {ds : List D} {vs : List V}, RpL K S ds vs → vs.length = ds.length
  | [], _, h => by
    rw [h.nil_inv]
    rfl
  | d :: ds, _, h => by
    obtain ⟨y, ys, rfl, _, t⟩ := h.cons_inv
    rw [List.length_cons, List.length_cons, t.length]
theorem RpL.get {K : PySem.W.Frag} {S : Wd} : ∀ {ds : List D} {vs : List V} {i : Nat} {d : D}, RpL K S ds vs → ds[i]? = some d → ∃ v, vs[i]? = some v ∧ Rp K S d v
  | [], _, _, _, _, e => by simp at e
  | d :: ds, _, 0, x, h, e => by
    obtain ⟨y, ys, rfl, r, t⟩ := h.cons_inv
    simp at e
    subst e
    exact ⟨y, rfl, r⟩
  | d :: ds, _, i + 1, x, h, e => by
    obtain ⟨y, ys, rfl, r, t⟩ := h.cons_inv
    obtain ⟨v, e1, r1⟩ := t.get (i := i) (d := x) (by simpa using e)
    exact ⟨v, by simpa using e1, r1⟩
theorem RpL.getV {K : PySem.W.Frag} {S : Wd} {ds : List D} {vs : List V} {i : Nat} {v : V} (h : RpL K S ds vs) (e : vs[i]? = some v) : ∃ d, ds[i]? = some d ∧ Rp K S d v := by
  have hl := h.length
  have hi : i < vs.length := (List.getElem?_eq_some_iff.mp e).1
  have hd : i < ds.length := by omega
  obtain ⟨u, e1, r⟩ := h.get (List.getElem?_eq_getElem hd)
  rw [e] at e1
  cases e1
  exact ⟨_, List.getElem?_eq_getElem hd, r⟩
theorem RpL.append {K : PySem.W.Frag} {S : Wd} : ∀ {ds es : List D} {vs ws : List V}, RpL K S ds vs → RpL K S es ws → RpL K S (ds ++ es) (vs ++ ws)
  | [], _, _, _, h, t => by rw [h.nil_inv]; exact t
  | d :: ds, _, _, _, h, t => by
    obtain ⟨y, ys, rfl, r, q⟩ := h.cons_inv
    exact RpL.cons r (q.append t)
theorem RpL.set {K : PySem.W.Frag} {S : Wd} {d : D} {v : V} (r : Rp K S d v) : ∀ {ds : List D} {vs : List V} (i : Nat), RpL K S ds vs → RpL K S (ds.set i d) (vs.set i v)
  | [], _, _, h => by rw [h.nil_inv]; exact RpL.nil
  | d :: ds, _, 0, h => by
    obtain ⟨y, ys, rfl, q, t⟩ := h.cons_inv
    exact RpL.cons r t
  | d :: ds, _, i + 1, h => by
    obtain ⟨y, ys, rfl, q, t⟩ := h.cons_inv
    exact RpL.cons q (RpL.set r i t)
theorem RpL.take {K : PySem.W.Frag} {S : Wd} : ∀ {ds : List D} {vs : List V} (n : Nat), RpL K S ds vs → RpL K S (ds.take n) (vs.take n)
  | _, _, 0, _ => by simpa using RpL.nil
  | [], _, n + 1, h => by rw [h.nil_inv]; exact RpL.nil
  | d :: ds, _, n + 1, h => by
    obtain ⟨y, ys, rfl, q, t⟩ := h.cons_inv
    exact RpL.cons q (t.take n)
theorem RpL.drop {K : PySem.W.Frag} {S : Wd} : ∀ {ds : List D} {vs : List V} (n : Nat), RpL K S ds vs → RpL K S (ds.drop n) (vs.drop n)
  | _, _, 0, h => by simpa using h
  | [], _, n + 1, h => by rw [h.nil_inv]; exact RpL.nil
  | d :: ds, _, n + 1, h => by
    obtain ⟨y, ys, rfl, q, t⟩ := h.cons_inv
    exact t.drop n
theorem RpL.ints {K : PySem.W.Frag} {S : Wd} : ∀ {ns : List Int} {vs : List V}, RpL K S (ns.map D.int) vs → vs = ns.map V.int
  | [], _, h => h.nil_inv
  | n :: ns, _, h => by
    obtain ⟨y, ys, rfl, q, t⟩ := RpL.cons_inv h
    rw [q.int, t.ints]
    rfl
theorem RpL.of_ints {K : PySem.W.Frag} {S : Wd} : ∀ (ns : List Int), RpL K S (ns.map D.int) (ns.map V.int)
  | [] => RpL.nil
  | n :: ns => RpL.cons (by unfold Rp; rfl) (RpL.of_ints ns)
theorem RpL.bls {K : PySem.W.Frag} {S : Wd} : ∀ {ns : List Bool} {vs : List V}, RpL K S (ns.map D.bl) vs → vs = ns.map V.bl
  | [], _, h => h.nil_inv
  | n :: ns, _, h => by
    obtain ⟨y, ys, rfl, q, t⟩ := RpL.cons_inv h
    unfold Rp at q
    rw [q, t.bls]
    rfl

/-! ### worlds that differ a little -/
section
variable {S T U : Wd} {p : Addr} {o : HO}
theorem Le.refl (S : Wd) : Le S S := ⟨fun _ _ e => e, fun _ _ e => e⟩
theorem Le.trans (a : Le S T) (b : Le T U) : Le S U := ⟨fun x o h => b.fz x o (a.fz x o h), fun x k h => b.mu x k (a.mu x k h)⟩
theorem ne_new {H : Hp} {a : Addr} (h : H a = some o) (hn : H p = none) : a ≠ p := ne_of_none h hn
theorem Le.lay (ok : S.Ok) (hn : S.H p = none) : Le S ⟨upd S.F p o, upd S.H p o, S.M⟩ := ⟨fun a u e => by
  show upd S.F p o a = _
  rw [upd_ne (ne_of_none (ok.sub a u e) hn)]
  exact e, fun _ _ e => e⟩
/-- a new object, frozen -/
theorem Gr.lay (ok : S.Ok) (hn : S.H p = none) (o : HO) : Gr S ⟨upd S.F p o, upd S.H p o, S.M⟩ := by
  refine ⟨ok, ⟨fun a u e => ?_, fun a k e => ?_, fun c q e => ?_⟩, (Le.lay ok hn).fz, fun a u e _ => ?_, fun a u e f => ?_, fun _ _ _ => rfl⟩
  · dsimp only at e ⊢
    by_cases h : a = p
    · subst h
      rw [upd_same] at e ⊢
      exact e
    · rw [upd_ne h] at e ⊢
      exact ok.sub a u e
  · obtain ⟨h1, h2⟩ := ok.kd a k e
    obtain ⟨u, hu⟩ := h2.there
    have h : a ≠ p := ne_of_none hu hn
    exact ⟨by show upd S.F p o a = none; rw [upd_ne h]; exact h1, h2.stay (Le.lay ok hn) (by show upd S.H p o a = _; rw [upd_ne h])⟩
  · dsimp only at e ⊢
    by_cases h : c = p
    · subst h
      rw [upd_same] at e ⊢
      exact e
    · rw [upd_ne h] at e ⊢
      exact ok.cod c q e
  · show upd S.H p o a = _
    rw [upd_ne (ne_of_none e hn)]
    exact e
  · show upd S.F p o a = _
    rw [upd_ne (ne_of_none e hn)]
    exact f
theorem Le.chg (U : Wd) (p : Addr) (o : HO) : Le U ⟨U.F, upd U.H p o, U.M⟩ := ⟨fun _ _ e => e, fun _ _ e => e⟩
/-- what is owned is changed -/
theorem Wd.Ok.change (ok : T.Ok) (hf : T.F p = none) (hm : T.M p = none) (nc : NoCode o := by intro _ _ z; unfold LamX.CodeO at z; cases z) : Wd.Ok ⟨T.F, upd T.H p o, T.M⟩ := by
  refine ⟨fun a u e => ?_, fun a k e => ?_, fun c q e => ?_⟩
  · show upd T.H p o a = _
    rw [upd_ne (ne_of_none e hf)]
    exact ok.sub a u e
  · obtain ⟨h1, h2⟩ := ok.kd a k e
    have h : a ≠ p := fun z => by
      subst z
      have e' : T.M a = some k := e
      rw [hm] at e'
      cases e'
    exact ⟨h1, h2.stay (Le.chg T p o) (by show upd T.H p o a = _; rw [upd_ne h])⟩
  · dsimp only at e ⊢
    by_cases h : c = p
    · subst h
      rw [upd_same] at e
      exact absurd (Option.some.inj e) (nc c q)
    · rw [upd_ne h] at e
      exact ok.cod c q e
theorem Gr.change (g : Gr S T) (hn : S.H p = none) (hf : T.F p = none) (hm : T.M p = none) (o : HO) (nc : NoCode o := by intro _ _ z; unfold LamX.CodeO at z; cases z) : Gr S ⟨T.F, upd T.H p o, T.M⟩ := by
  refine ⟨g.oS, g.ok.change hf hm nc, g.fz, fun a u e m => ?_, g.fr, g.mu⟩
  show upd T.H p o a = _
  rw [upd_ne (ne_of_none e hn)]
  exact g.hp a u e m
/-- a new object, owned -/
theorem Gr.layO (ok : S.Ok) (hn : S.H p = none) (o : HO) (nc : NoCode o := by intro _ _ z; unfold LamX.CodeO at z; cases z) : Gr S ⟨S.F, upd S.H p o, S.M⟩ := (Gr.refl ok).change hn (ok.fnone hn) (ok.mnone hn) o nc
/-- the world in which the objects of A are frozen, too -/
def Wd.frz (T : Wd) (A : List Addr) : Wd := ⟨fun a => if a ∈ A then T.H a else T.F a, T.H, T.M⟩
theorem frz_in {A : List Addr} {a : Addr} (h : a ∈ A) : (T.frz A).F a = T.H a := if_pos h
theorem frz_out {A : List Addr} {a : Addr} (h : a ∉ A) : (T.frz A).F a = T.F a := if_neg h
theorem Le.frz {A : List Addr} (hf : ∀ a ∈ A, T.F a = none) : Le T (T.frz A) := ⟨fun a u e => by
  by_cases h : a ∈ A
  · rw [hf a h] at e
    cases e
  · rw [frz_out h]
    exact e, fun _ _ e => e⟩
theorem Gr.frz {A : List Addr} (g : Gr S T) (h : ∀ a ∈ A, T.F a = none ∧ T.M a = none ∧ S.H a = none) : Gr S (T.frz A) := by
  have l := Le.frz (T := T) fun a ha => (h a ha).1
  refine ⟨g.oS, ⟨fun a u e => ?_, fun a k e => ?_, fun c q e => l.fz _ _ (g.ok.cod c q e)⟩, fun a u e => l.fz a u (g.fz a u e), g.hp, fun a u e f => ?_, g.mu⟩
  · by_cases ha : a ∈ A
    · rw [frz_in ha] at e
      exact e
    · rw [frz_out ha] at e
      exact g.ok.sub a u e
  · have ha : a ∉ A := fun ha => by
      have e' : T.M a = some k := e
      rw [(h a ha).2.1] at e'
      cases e'
    obtain ⟨h1, h2⟩ := g.ok.kd a k e
    exact ⟨by rw [frz_out ha]; exact h1, h2.stay l rfl⟩
  · have ha : a ∉ A := fun ha => by
      rw [(h a ha).2.2] at e
      cases e
    rw [frz_out ha]
    exact g.fr a u e f
/-- what was new is frozen -/
theorem Gr.freeze (g : Gr S T) (hn : S.H p = none) (hp : T.H p = some o) (hm : T.M p = none) : Gr S ⟨upd T.F p o, T.H, T.M⟩ := by
  refine ⟨g.oS, ⟨fun a u e => ?_, fun a k e => ?_, fun c q e => ?_⟩, fun a u e => ?_, g.hp, fun a u e f => ?_, g.mu⟩
  · dsimp only at e ⊢
    by_cases h : a = p
    · subst h
      rw [upd_same] at e
      cases e
      exact hp
    · rw [upd_ne h] at e
      exact g.ok.sub a u e
  · obtain ⟨h1, h2⟩ := g.ok.kd a k e
    have h : a ≠ p := fun z => by
      subst z
      have e' : T.M a = some k := e
      rw [hm] at e'
      cases e'
    refine ⟨by show upd T.F p o a = none; rw [upd_ne h]; exact h1, h2.stay ⟨fun b u q => ?_, fun _ _ q => q⟩ rfl⟩
    by_cases hb : b = p
    · subst hb
      show upd T.F b o b = _
      rw [upd_same, ← hp, g.ok.sub _ _ q]
    · show upd T.F p o b = _
      rw [upd_ne hb]
      exact q
  · have z := g.ok.cod c q e
    by_cases h : c = p
    · subst h
      show upd T.F c o c = _
      rw [upd_same, ← hp]
      exact e
    · show upd T.F p o c = _
      rw [upd_ne h]
      exact z
  · have h : a ≠ p := ne_of_none (g.oS.sub a u e) hn
    show upd T.F p o a = _
    rw [upd_ne h]
    exact g.fz a u e
  · have h : a ≠ p := ne_of_none e hn
    show upd T.F p o a = _
    rw [upd_ne h]
    exact g.fr a u e f
theorem Le.freeze (hf : T.F p = none) : Le T ⟨upd T.F p o, T.H, T.M⟩ := ⟨fun a u e => by
  show upd T.F p o a = _
  rw [upd_ne (ne_of_none e hf)]
  exact e, fun _ _ e => e⟩
/-- a kept cell is changed -/
theorem Gr.cell {k : D} (ok : S.Ok) (hm : S.M p = some k) (o : HO) (hi : KInv ⟨S.F, upd S.H p o, S.M⟩ k p) (nc : NoCode o := by intro _ _ z; unfold LamX.CodeO at z; cases z) : Gr S ⟨S.F, upd S.H p o, S.M⟩ := by
  refine ⟨ok, ⟨fun a u e => ?_, fun a j e => ?_, fun c q e => ?_⟩, fun a u e => e, fun a u e m => ?_, fun a u e f => f, fun _ _ _ => rfl⟩
  · have h : a ≠ p := fun z => by
      subst z
      rw [(ok.kd a k hm).1] at e
      cases e
    show upd S.H p _ a = _
    rw [upd_ne h]
    exact ok.sub a u e
  · obtain ⟨h1, h2⟩ := ok.kd a j e
    by_cases h : a = p
    · subst h
      have e' : S.M a = some j := e
      rw [hm] at e'
      cases e'
      exact ⟨h1, hi⟩
    · exact ⟨h1, h2.stay (Le.chg S p o) (by show upd S.H p o a = _; rw [upd_ne h])⟩
  · dsimp only at e ⊢
    by_cases h : c = p
    · subst h
      rw [upd_same] at e
      exact absurd (Option.some.inj e) (nc c q)
    · rw [upd_ne h] at e
      exact ok.cod c q e
  · have h : a ≠ p := fun z => by
      subst z
      rw [hm] at m
      cases m
    show upd S.H p _ a = _
    rw [upd_ne h]
    exact e
theorem Gr.poolSet (ok : S.Ok) (hm : S.M p = some .pool) (x y : Int) (hxy : 0 ≤ y ∧ y < 4294967296) : Gr S ⟨S.F, upd S.H p (.lst [.int x, .int y]), S.M⟩ := Gr.cell ok hm _ ⟨x, y, upd_same, hxy⟩
/-- what is owned becomes a kept cell -/
def Wd.mk' (T : Wd) (p : Addr) (k : D) : Wd := ⟨T.F, T.H, fun a => if a = p then some k else T.M a⟩
theorem Le.mkc {k : D} (hm : T.M p = none) : Le T (T.mk' p k) := ⟨fun _ _ e => e, fun a j e => by
  show (if a = p then some k else T.M a) = some j
  have h : a ≠ p := fun z => by
    subst z
    rw [hm] at e
    cases e
  rw [if_neg h]
  exact e⟩
theorem Gr.mkc {k : D} (g : Gr S T) (hn : S.H p = none) (hf : T.F p = none) (hm : T.M p = none) (hi : KInv (T.mk' p k) k p) : Gr S (T.mk' p k) := by
  refine ⟨g.oS, ⟨g.ok.sub, fun a j e => ?_, g.ok.cod⟩, g.fz, g.hp, g.fr, fun a u e => ?_⟩
  · by_cases h : a = p
    · subst h
      have e' : (if a = a then some k else T.M a) = some j := e
      rw [if_pos rfl] at e'
      cases e'
      exact ⟨hf, hi⟩
    · have e' : (if a = p then some k else T.M a) = some j := e
      rw [if_neg h] at e'
      obtain ⟨h1, h2⟩ := g.ok.kd a j e'
      exact ⟨h1, h2.stay (Le.mkc hm) rfl⟩
  · have h : a ≠ p := ne_of_none e hn
    show (if a = p then some k else T.M a) = _
    rw [if_neg h]
    exact g.mu a u e
end
end Z

namespace Z
open PySem L2
/-! ### trees of one's own -/
inductive O where
  | fz (d : D) | lst (os : List O) | tup (os : List O)
  | ins (b C : Addr) (ns : List Str) (os : List O)
  | dic (b : Addr) (ks : List Key) (os : List O)
  | ext (f : Wd → HO → Prop)
mutual
def O.d : O → D
  | .fz d => d
  | .lst os => .lst (O.ds os)
  | .tup os => .tup (O.ds os)
  | .ins _ C ns os => .ins C ns (O.ds os)
  | .dic b ks os => .dic b ks (O.ds os)
  | .ext _ => .any
def O.ds : List O → List D
  | [] => []
  | o :: os => o.d :: O.ds os
end
theorem O.ds_eq (os : List O) : O.ds os = os.map O.d := by
  induction os with
  | nil => unfold O.ds; rfl
  | cons o os ih => unfold O.ds; rw [ih]; rfl
structure Own (S0 S : Wd) (l : Addr) : Prop where
  f : S.F l = none
  m : S.M l = none
  n : S0.H l = none
mutual
def Ow (K : PySem.W.Frag) (S0 S : Wd) : O → V → List Addr → Prop
  | .fz d, v, A => A = [] ∧ Rp K S d v
  | .lst os, v, A => ∃ l xs B, A = l :: B ∧ v = .ref l ∧ S.H l = some (.lst xs) ∧ Own S0 S l ∧ OwL K S0 S os xs B
  | .tup os, v, A => ∃ a xs, v = .ref a ∧ S.F a = some (.tup xs) ∧ OwL K S0 S os xs A
  | .ins l C ns os, v, A => ∃ dx fs B, A = l :: B ∧ v = .ref l ∧ S.H l = some (.ins C dx fs) ∧ Own S0 S l ∧ fs.map (·.1) = ns ∧ OwL K S0 S os (fs.map (·.2)) B
  | .dic l ks os, v, A => ∃ kvs B, A = l :: B ∧ v = .ref l ∧ S.H l = some (.dK kvs) ∧ Own S0 S l ∧ kvs.map (·.1) = ks ∧ OwL K S0 S os (kvs.map (·.2)) B
  | .ext f, v, A => ∃ l o, A = [l] ∧ v = .ref l ∧ S.H l = some o ∧ Own S0 S l ∧ ∀ T : Wd, Le S T → f T o
def OwL (K : PySem.W.Frag) (S0 S : Wd) : List O → List V → List Addr → Prop
  | [], xs, A => xs = [] ∧ A = []
  | o :: os, xs, A => ∃ y ys B C, xs = y :: ys ∧ A = B ++ C ∧ Ow K S0 S o y B ∧ OwL K S0 S os ys C
end
section
variable {K : PySem.W.Frag} {S0 S T : Wd}
/-- how a world may go on for what is owned at A -/
structure Keeps (S0 S T : Wd) (A : List Addr) : Prop where
  le : Le S T
  hp : ∀ a ∈ A, Own S0 S a → ∀ o, S.H a = some o → T.H a = some o
  ow : ∀ a ∈ A, Own S0 S a → (∃ o, S.H a = some o) → Own S0 T a
theorem Keeps.sub {A B : List Addr} (k : Keeps S0 S T A) (h : ∀ a ∈ B, a ∈ A) : Keeps S0 S T B := ⟨k.le, fun a ha => k.hp a (h a ha), fun a ha => k.ow a (h a ha)⟩
theorem Keeps.gr {A : List Addr} (g : Gr S T) : Keeps S0 S T A := ⟨g.le, fun a _ w o e => g.hp a o e w.m, fun a _ w ⟨o, e⟩ => ⟨g.fr a o e w.f, by rw [g.mu a o e, w.m], w.n⟩⟩
theorem Keeps.chg {A : List Addr} {p : Addr} {o : HO} (h : p ∉ A) : Keeps S0 S ⟨S.F, upd S.H p o, S.M⟩ A :=
  ⟨Le.chg S p o, fun a ha _ u e => by show upd S.H p o a = _; rw [upd_ne (fun z : a = p => h (z ▸ ha))]; exact e, fun a _ w _ => ⟨w.f, w.m, w.n⟩⟩
theorem Keeps.frz {A B : List Addr} (hB : ∀ a ∈ B, S.F a = none) (h : ∀ a ∈ A, a ∉ B) : Keeps S0 S (S.frz B) A :=
  ⟨Le.frz hB, fun a _ _ o e => e, fun a ha w _ => ⟨by rw [frz_out (h a ha)]; exact w.f, w.m, w.n⟩⟩
theorem Keeps.mkc {A : List Addr} {p : Addr} {k : D} (hm : S.M p = none) (h : p ∉ A) : Keeps S0 S (S.mk' p k) A :=
  ⟨Le.mkc hm, fun a _ _ o e => e, fun a ha w _ => ⟨w.f, by show (if a = p then some k else S.M a) = none; rw [if_neg (fun z : a = p => h (z ▸ ha))]; exact w.m, w.n⟩⟩
mutual
theorem Ow.keeps : ∀ {o : O} {v : V} {A : List Addr}, Keeps S0 S T A → Ow K S0 S o v A → Ow K S0 T o v A
  | .fz d, v, A, k, h => by
    unfold Ow at h ⊢
    exact ⟨h.1, h.2.mono k.le⟩
  | .lst os, v, A, k, h => by
    unfold Ow at h ⊢
    obtain ⟨l, xs, B, rfl, e, hp, w, r⟩ := h
    exact ⟨l, xs, B, rfl, e, k.hp l List.mem_cons_self w _ hp, k.ow l List.mem_cons_self w ⟨_, hp⟩, OwL.keeps (k.sub fun a ha => List.mem_cons_of_mem _ ha) r⟩
  | .tup os, v, A, k, h => by
    unfold Ow at h ⊢
    obtain ⟨a, xs, e, f, r⟩ := h
    exact ⟨a, xs, e, k.le.fz _ _ f, OwL.keeps k r⟩
  | .ins l C ns os, v, A, k, h => by
    unfold Ow at h ⊢
    obtain ⟨dx, xs, B, rfl, e, hp, w, n, r⟩ := h
    exact ⟨dx, xs, B, rfl, e, k.hp l List.mem_cons_self w _ hp, k.ow l List.mem_cons_self w ⟨_, hp⟩, n, OwL.keeps (k.sub fun a ha => List.mem_cons_of_mem _ ha) r⟩
  | .dic l ks os, v, A, k, h => by
    unfold Ow at h ⊢
    obtain ⟨xs, B, rfl, e, hp, w, n, r⟩ := h
    exact ⟨xs, B, rfl, e, k.hp l List.mem_cons_self w _ hp, k.ow l List.mem_cons_self w ⟨_, hp⟩, n, OwL.keeps (k.sub fun a ha => List.mem_cons_of_mem _ ha) r⟩
  | .ext f, v, A, k, h => by
    unfold Ow at h ⊢
    obtain ⟨l, o, rfl, e, hp, w, r⟩ := h
    exact ⟨l, o, rfl, e, k.hp l List.mem_cons_self w _ hp, k.ow l List.mem_cons_self w ⟨_, hp⟩, fun U hU => r U (k.le.trans hU)⟩
theorem OwL.keeps : ∀ {os : List O} {vs : List V} {A : List Addr}, Keeps S0 S T A → OwL K S0 S os vs A → OwL K S0 T os vs A
  | [], vs, A, k, h => by unfold OwL at h ⊢; exact h
  | o :: os, vs, A, k, h => by
    unfold OwL at h ⊢
    obtain ⟨y, ys, B, C, e, rfl, r, t⟩ := h
    exact ⟨y, ys, B, C, e, rfl, Ow.keeps (k.sub fun a ha => List.mem_append_left _ ha) r, OwL.keeps (k.sub fun a ha => List.mem_append_right _ ha) t⟩
end
mutual
/-- an older world to be new in -/
theorem Ow.base {S1 : Wd} (b : ∀ a, S0.H a = none → S1.H a = none) : ∀ {o : O} {v : V} {A : List Addr}, Ow K S0 S o v A → Ow K S1 S o v A
  | .fz d, v, A, h => by unfold Ow at h ⊢; exact h
  | .lst os, v, A, h => by
    unfold Ow at h ⊢
    obtain ⟨l, xs, B, rfl, e, hp, w, r⟩ := h
    exact ⟨l, xs, B, rfl, e, hp, ⟨w.f, w.m, b _ w.n⟩, OwL.base b r⟩
  | .tup os, v, A, h => by
    unfold Ow at h ⊢
    obtain ⟨a, xs, e, f, r⟩ := h
    exact ⟨a, xs, e, f, OwL.base b r⟩
  | .ins l C ns os, v, A, h => by
    unfold Ow at h ⊢
    obtain ⟨dx, xs, B, rfl, e, hp, w, n, r⟩ := h
    exact ⟨dx, xs, B, rfl, e, hp, ⟨w.f, w.m, b _ w.n⟩, n, OwL.base b r⟩
  | .dic l ks os, v, A, h => by
    unfold Ow at h ⊢
    obtain ⟨xs, B, rfl, e, hp, w, n, r⟩ := h
    exact ⟨xs, B, rfl, e, hp, ⟨w.f, w.m, b _ w.n⟩, n, OwL.base b r⟩
  | .ext f, v, A, h => by
    unfold Ow at h ⊢
    obtain ⟨l, o, rfl, e, hp, w, r⟩ := h
    exact ⟨l, o, rfl, e, hp, ⟨w.f, w.m, b _ w.n⟩, r⟩
theorem OwL.base {S1 : Wd} (b : ∀ a, S0.H a = none → S1.H a = none) : ∀ {os : List O} {vs : List V} {A : List Addr}, OwL K S0 S os vs A → OwL K S1 S os vs A
  | [], vs, A, h => by unfold OwL at h ⊢; exact h
  | o :: os, vs, A, h => by
    unfold OwL at h ⊢
    obtain ⟨y, ys, B, C, e, rfl, r, t⟩ := h
    exact ⟨y, ys, B, C, e, rfl, Ow.base b r, OwL.base b t⟩
end
mutual
theorem Ow.there : ∀ {o : O} {v : V} {A : List Addr}, Ow K S0 S o v A → ∀ a ∈ A, Own S0 S a ∧ ∃ u, S.H a = some u
  | .fz d, v, A, h, a, ha => by
    unfold Ow at h
    rw [h.1] at ha
    cases ha
  | .lst os, v, A, h, a, ha => by
    unfold Ow at h
    obtain ⟨l, xs, B, rfl, e, hp, w, r⟩ := h
    rcases List.mem_cons.mp ha with z | z
    · rw [z]; exact ⟨w, _, hp⟩
    · exact OwL.there r a z
  | .tup os, v, A, h, a, ha => by
    unfold Ow at h
    obtain ⟨_, xs, e, f, r⟩ := h
    exact OwL.there r a ha
  | .ins l C ns os, v, A, h, a, ha => by
    unfold Ow at h
    obtain ⟨dx, xs, B, rfl, e, hp, w, n, r⟩ := h
    rcases List.mem_cons.mp ha with z | z
    · rw [z]; exact ⟨w, _, hp⟩
    · exact OwL.there r a z
  | .dic l ks os, v, A, h, a, ha => by
    unfold Ow at h
    obtain ⟨xs, B, rfl, e, hp, w, n, r⟩ := h
    rcases List.mem_cons.mp ha with z | z
    · rw [z]; exact ⟨w, _, hp⟩
    · exact OwL.there r a z
  | .ext f, v, A, h, a, ha => by
    unfold Ow at h
    obtain ⟨l, o, rfl, e, hp, w, r⟩ := h
    cases List.mem_singleton.mp ha
    exact ⟨w, _, hp⟩
theorem OwL.there : ∀ {os : List O} {vs : List V} {A : List Addr}, OwL K S0 S os vs A → ∀ a ∈ A, Own S0 S a ∧ ∃ u, S.H a = some u
  | [], vs, A, h, a, ha => by
    unfold OwL at h
    rw [h.2] at ha
    cases ha
  | o :: os, vs, A, h, a, ha => by
    unfold OwL at h
    obtain ⟨y, ys, B, C, e, rfl, r, t⟩ := h
    rcases List.mem_append.mp ha with z | z
    · exact Ow.there r a z
    · exact OwL.there t a z
end
mutual
/-- given up: it is data from now on -/
theorem Ow.frz : ∀ {o : O} {v : V} {A B : List Addr}, Ow K S0 S o v A → (∀ a ∈ A, a ∈ B) → (∀ a ∈ B, S.F a = none) → Rp K (S.frz B) o.d v
  | .fz d, v, A, B, h, hs, hB => by
    unfold Ow at h
    unfold O.d
    exact h.2.mono (Le.frz hB)
  | .lst os, v, A, B, h, hs, hB => by
    unfold Ow at h
    obtain ⟨l, xs, B', rfl, e, hp, w, r⟩ := h
    unfold O.d Rp
    exact ⟨l, xs, e, by rw [frz_in (hs l List.mem_cons_self)]; exact hp, OwL.frz r (fun a ha => hs a (List.mem_cons_of_mem _ ha)) hB⟩
  | .tup os, v, A, B, h, hs, hB => by
    unfold Ow at h
    obtain ⟨a, xs, e, f, r⟩ := h
    unfold O.d Rp
    exact ⟨a, xs, e, SqT.of ((Le.frz hB).fz _ _ f), OwL.frz r hs hB⟩
  | .ins l C ns os, v, A, B, h, hs, hB => by
    unfold Ow at h
    obtain ⟨dx, xs, B', rfl, e, hp, w, n, r⟩ := h
    unfold O.d Rp
    exact ⟨l, dx, xs, e, by rw [frz_in (hs l List.mem_cons_self)]; exact hp, n, OwL.frz r (fun a ha => hs a (List.mem_cons_of_mem _ ha)) hB⟩
  | .dic l ks os, v, A, B, h, hs, hB => by
    unfold Ow at h
    obtain ⟨xs, B', rfl, e, hp, w, n, r⟩ := h
    unfold O.d Rp
    exact ⟨xs, e, by rw [frz_in (hs l List.mem_cons_self)]; exact hp, n, OwL.frz r (fun a ha => hs a (List.mem_cons_of_mem _ ha)) hB⟩
  | .ext f, v, A, B, h, hs, hB => by
    unfold O.d Rp
    trivial
theorem OwL.frz : ∀ {os : List O} {vs : List V} {A B : List Addr}, OwL K S0 S os vs A → (∀ a ∈ A, a ∈ B) → (∀ a ∈ B, S.F a = none) → RpL K (S.frz B) (O.ds os) vs
  | [], vs, A, B, h, hs, hB => by
    unfold OwL at h
    unfold O.ds RpL
    exact h.1
  | o :: os, vs, A, B, h, hs, hB => by
    unfold OwL at h
    obtain ⟨y, ys, A1, A2, e, rfl, r, t⟩ := h
    unfold O.ds RpL
    exact ⟨y, ys, e, Ow.frz r (fun a ha => hs a (List.mem_append_left _ ha)) hB, OwL.frz t (fun a ha => hs a (List.mem_append_right _ ha)) hB⟩
end
theorem OwL.of_fz : ∀ {ds : List D} {vs : List V}, RpL K S ds vs → OwL K S0 S (ds.map O.fz) vs []
  | [], vs, h => by
    rw [List.map_nil]
    unfold OwL
    exact ⟨h.nil_inv, rfl⟩
  | d :: ds, vs, h => by
    obtain ⟨y, ys, rfl, r, t⟩ := h.cons_inv
    rw [List.map_cons]
    unfold OwL
    exact ⟨y, ys, [], [], rfl, rfl, by unfold Ow; exact ⟨rfl, r⟩, OwL.of_fz t⟩
theorem OwL.to_fz : ∀ {ds : List D} {vs : List V} {A : List Addr}, OwL K S0 S (ds.map O.fz) vs A → A = [] ∧ RpL K S ds vs
  | [], vs, A, h => by
    rw [List.map_nil] at h
    unfold OwL at h
    exact ⟨h.2, by rw [h.1]; exact RpL.nil⟩
  | d :: ds, vs, A, h => by
    rw [List.map_cons] at h
    unfold OwL at h
    obtain ⟨y, ys, B, C, rfl, rfl, r, t⟩ := h
    unfold Ow at r
    obtain ⟨rfl, r⟩ := r
    obtain ⟨rfl, t'⟩ := OwL.to_fz t
    exact ⟨rfl, RpL.cons r t'⟩
theorem OwL.nil : OwL K S0 S [] [] [] := by unfold OwL; exact ⟨rfl, rfl⟩
theorem OwL.cons {o : O} {os : List O} {v : V} {vs : List V} {A B : List Addr} (h : Ow K S0 S o v A) (t : OwL K S0 S os vs B) : OwL K S0 S (o :: os) (v :: vs) (A ++ B) := by
  unfold OwL
  exact ⟨v, vs, A, B, rfl, rfl, h, t⟩
theorem OwL.cons_inv {o : O} {os : List O} {vs : List V} {A : List Addr} (h : OwL K S0 S (o :: os) vs A) : ∃ y ys B C, vs = y :: ys ∧ A = B ++ C ∧ Ow K S0 S o y B ∧ OwL K S0 S os ys C := by
  unfold OwL at h
  exact h
theorem OwL.nil_inv {vs : List V} {A : List Addr} (h : OwL K S0 S [] vs A) : vs = [] ∧ A = [] := by
  unfold OwL at h
  exact h
theorem OwL.length : ∀ {os : List O} {vs : List V} {A : List Addr}, OwL K S0 S os vs A → vs.length = os.length
  | [], _, _, h => by
    rw [h.nil_inv.1]
    rfl
  | o :: os, _, _, h => by
    obtain ⟨y, ys, B, C, rfl, _, _, t⟩ := h.cons_inv
    rw [List.length_cons, List.length_cons, t.length]
theorem OwL.append : ∀ {os ps : List O} {vs ws : List V} {A B : List Addr}, OwL K S0 S os vs A → OwL K S0 S ps ws B → OwL K S0 S (os ++ ps) (vs ++ ws) (A ++ B)
  | [], _, _, _, _, _, h, t => by
    obtain ⟨rfl, rfl⟩ := h.nil_inv
    exact t
  | o :: os, _, _, _, _, _, h, t => by
    obtain ⟨y, ys, B, C, rfl, rfl, r, q⟩ := h.cons_inv
    rw [List.append_assoc]
    exact OwL.cons r (q.append t)
/-- an item: it, and the rest around it -/
theorem OwL.at : ∀ {os : List O} {vs : List V} {A : List Addr} {i : Nat} {o : O}, OwL K S0 S os vs A → os[i]? = some o → ∃ v A1 B A2, vs[i]? = some v ∧ A = A1 ++ (B ++ A2) ∧ Ow K S0 S o v B ∧
    ∀ {T : Wd} {o' : O} {v' : V} {B' : List Addr}, Keeps S0 S T (A1 ++ A2) → Ow K S0 T o' v' B' → OwL K S0 T (os.set i o') (vs.set i v') (A1 ++ (B' ++ A2))
  | [], _, _, _, _, h, e => by simp at e
  | o :: os, _, _, 0, o', h, e => by
    obtain ⟨y, ys, B, C, rfl, rfl, r, q⟩ := h.cons_inv
    simp at e
    subst e
    refine ⟨y, [], B, C, rfl, rfl, r, fun {T o' v' B'} k r' => ?_⟩
    show OwL K S0 T (o' :: os) (v' :: ys) (B' ++ C)
    exact OwL.cons r' (q.keeps (k.sub fun a ha => by simpa using ha))
  | o :: os, _, _, i + 1, o', h, e => by
    obtain ⟨y, ys, B, C, rfl, rfl, r, q⟩ := h.cons_inv
    obtain ⟨v, A1, B1, A2, e1, e2, r1, up⟩ := q.at (i := i) (o := o') (by simpa using e)
    refine ⟨v, B ++ A1, B1, A2, by simpa using e1, by rw [e2, List.append_assoc], r1, fun {T o' v' B'} k r' => ?_⟩
    rw [List.append_assoc]
    exact OwL.cons (r.keeps (k.sub fun a ha => by
      rw [List.append_assoc]
      exact List.mem_append_left _ ha)) (up (k.sub fun a ha => by
      rw [List.append_assoc]
      exact List.mem_append_right _ ha) r')
end
/-! ### contexts -/
inductive Sl where
  | un | dat (d : D) | own (ds : List D) | tre (o : O)
  | fct (d : D) (f : Wd → Prop)
abbrev Ctx := List Sl
def SlO (K : PySem.W.Frag) (S0 S : Wd) : Sl → Option (Option V) → List Addr → Prop
  | .un, _, A => A = []
  | .dat d, x, A => A = [] ∧ ∃ v, x = some (some v) ∧ Rp K S d v
  | .own ds, x, A => ∃ l xs, A = [l] ∧ x = some (some (.ref l)) ∧ S.H l = some (.lst xs) ∧ Own S0 S l ∧ RpL K S ds xs
  | .tre o, x, A => ∃ v, x = some (some v) ∧ Ow K S0 S o v A
  | .fct d f, x, A => A = [] ∧ (∃ v, x = some (some v) ∧ Rp K S d v) ∧ ∀ T : Wd, Le S T → f T
structure EnvOk (K : PySem.W.Frag) (S0 S : Wd) (σ : L2.St) (Γ : Ctx) : Prop where
  ok : S.Ok
  len : σ.length = Γ.length
  fp : ∃ A : Nat → List Addr, (∀ i s, Γ[i]? = some s → SlO K S0 S s (σ[i]?) (A i)) ∧ (∀ i j a, i ≠ j → a ∈ A i → a ∈ A j → False) ∧ (∀ i, (A i).Nodup) ∧ ∀ i, Γ[i]? = none → A i = []
section
variable {K : PySem.W.Frag} {S0 S T : Wd} {σ : L2.St} {Γ : Ctx}
theorem SlO.keeps {s : Sl} {x : Option (Option V)} {A : List Addr} (k : Keeps S0 S T A) (h : SlO K S0 S s x A) : SlO K S0 T s x A := by
  cases s with
  | un => exact h
  | dat d =>
    obtain ⟨e, v, q, r⟩ := h
    exact ⟨e, v, q, r.mono k.le⟩
  | own ds =>
    obtain ⟨l, xs, rfl, q, hp, w, r⟩ := h
    exact ⟨l, xs, rfl, q, k.hp l (List.mem_singleton.mpr rfl) w _ hp, k.ow l (List.mem_singleton.mpr rfl) w ⟨_, hp⟩, r.mono k.le⟩
  | tre o =>
    obtain ⟨v, q, r⟩ := h
    exact ⟨v, q, r.keeps k⟩
  | fct d f =>
    obtain ⟨e, ⟨v, q, r⟩, hf⟩ := h
    exact ⟨e, ⟨v, q, r.mono k.le⟩, fun U l => hf U (k.le.trans l)⟩
theorem SlO.there {s : Sl} {x : Option (Option V)} {A : List Addr} (h : SlO K S0 S s x A) : ∀ a ∈ A, Own S0 S a ∧ ∃ u, S.H a = some u := fun a ha => by
  cases s with
  | un =>
    rw [show A = [] from h] at ha
    cases ha
  | dat d =>
    rw [h.1] at ha
    cases ha
  | own ds =>
    obtain ⟨l, xs, rfl, q, hp, w, r⟩ := h
    rw [List.mem_singleton.mp ha]
    exact ⟨w, _, hp⟩
  | tre o =>
    obtain ⟨v, q, r⟩ := h
    exact r.there a ha
  | fct d f =>
    rw [h.1] at ha
    cases ha
/-- a slot is set, the world goes on: all that the other slots own is kept -/
theorem EnvOk.step (E : EnvOk K S0 S σ Γ) (i : Nat) {s' : Sl} {x' : Option V} (ok : T.Ok)
    (h : ∀ B : List Addr, (∀ s, Γ[i]? = some s → SlO K S0 S s (σ[i]?) B) → B.Nodup → (∀ A : List Addr, (∀ a ∈ A, a ∉ B) → Keeps S0 S T A) ∧ ∃ B' : List Addr, SlO K S0 T s' (some x') B' ∧ B'.Nodup ∧ ∀ a ∈ B', a ∈ B ∨ S.H a = none) :
    EnvOk K S0 T (σ.set i x') (Γ.set i s') := by
  obtain ⟨A, h1, h2, h3, h4⟩ := E.fp
  obtain ⟨kp, B', hB, nd, fr⟩ := h (A i) (h1 i) (h3 i)
  by_cases hi : i < Γ.length
  · have key : ∀ {j a}, j ≠ i → a ∈ A j → a ∈ B' → False := fun {j a} hj ha hb => by
      rcases fr a hb with z | z
      · exact h2 j i a hj ha z
      · cases hl : Γ[j]? with
        | none =>
          rw [h4 j hl] at ha
          cases ha
        | some s =>
          obtain ⟨_, u, e⟩ := (h1 j s hl).there a ha
          rw [z] at e
          cases e
    refine ⟨ok, by simp [E.len], fun j => if j = i then B' else A j, fun j s hs => ?_, fun j k a hjk ha hb => ?_, fun j => ?_, fun j hn => ?_⟩ <;> dsimp only at *
    · by_cases hj : j = i
      · subst hj
        rw [List.getElem?_set_self hi] at hs
        cases hs
        rw [List.getElem?_set_self (by rw [E.len]; exact hi), if_pos rfl]
        exact hB
      · rw [List.getElem?_set_ne (Ne.symm hj)] at hs ⊢
        rw [if_neg hj]
        exact (h1 j s hs).keeps (kp _ fun a ha hb => h2 j i a hj ha hb)
    · by_cases hj : j = i
      · rw [if_pos hj] at ha
        have hk : k ≠ i := fun z => hjk (hj.trans z.symm)
        rw [if_neg hk] at hb
        exact key hk hb ha
      · rw [if_neg hj] at ha
        by_cases hk : k = i
        · rw [if_pos hk] at hb
          exact key hj ha hb
        · rw [if_neg hk] at hb
          exact h2 j k a hjk ha hb
    · by_cases hj : j = i
      · rw [if_pos hj]; exact nd
      · rw [if_neg hj]; exact h3 j
    · have hj : j ≠ i := fun z => by
        subst z
        rw [List.getElem?_set_self hi] at hn
        cases hn
      rw [List.getElem?_set_ne (Ne.symm hj)] at hn
      rw [if_neg hj]
      exact h4 j hn
  · have e1 : Γ.set i s' = Γ := List.set_eq_of_length_le (by omega)
    have e2 : σ.set i x' = σ := List.set_eq_of_length_le (by rw [E.len]; omega)
    rw [e1, e2]
    have hz : A i = [] := h4 i (List.getElem?_eq_none (by omega))
    refine ⟨ok, E.len, A, fun j s hs => (h1 j s hs).keeps (kp _ fun a ha hb => by rw [hz] at hb; cases hb), h2, h3, h4⟩
theorem EnvOk.gr (E : EnvOk K S0 S σ Γ) (g : Gr S T) : EnvOk K S0 T σ Γ := by
  obtain ⟨A, h1, h2, h3, h4⟩ := E.fp
  exact ⟨g.ok, E.len, A, fun i s hs => (h1 i s hs).keeps (Keeps.gr g), h2, h3, h4⟩
theorem EnvOk.dat (E : EnvOk K S0 S σ Γ) (i : Nat) (d : D) (h : Γ[i]? = some (.dat d)) : ∃ v, σ[i]? = some (some v) ∧ Rp K S d v := by
  obtain ⟨A, h1, _⟩ := E.fp
  exact (h1 i _ h).2
theorem EnvOk.own (E : EnvOk K S0 S σ Γ) (i : Nat) (ds : List D) (h : Γ[i]? = some (.own ds)) : ∃ l xs, σ[i]? = some (some (.ref l)) ∧ S.H l = some (.lst xs) ∧ S.F l = none ∧ S.M l = none ∧ S0.H l = none ∧ RpL K S ds xs := by
  obtain ⟨A, h1, _⟩ := E.fp
  obtain ⟨l, xs, _, q, hp, w, r⟩ := h1 i _ h
  exact ⟨l, xs, q, hp, w.f, w.m, w.n, r⟩
theorem EnvOk.tre (E : EnvOk K S0 S σ Γ) (i : Nat) (o : O) (h : Γ[i]? = some (.tre o)) : ∃ v A, σ[i]? = some (some v) ∧ Ow K S0 S o v A ∧ A.Nodup := by
  obtain ⟨A, h1, _, h3, _⟩ := E.fp
  obtain ⟨v, q, r⟩ := h1 i _ h
  exact ⟨v, A i, q, r, h3 i⟩
theorem keeps_refl {A : List Addr} : Keeps S0 S S A := ⟨Le.refl S, fun _ _ _ _ e => e, fun _ _ w _ => w⟩
theorem EnvOk.setDat (E : EnvOk K S0 S σ Γ) {i : Nat} {d : D} {v : V} (r : Rp K S d v) : EnvOk K S0 S (σ.set i (some v)) (Γ.set i (.dat d)) :=
  E.step i E.ok fun B _ _ => ⟨fun _ _ => keeps_refl, [], ⟨rfl, v, rfl, r⟩, List.nodup_nil, fun _ h => nomatch h⟩
/-- a slot that is forgotten -/
theorem EnvOk.setUn (E : EnvOk K S0 S σ Γ) {i : Nat} {o : Option V} : EnvOk K S0 S (σ.set i o) (Γ.set i .un) :=
  E.step i E.ok fun B _ _ => ⟨fun _ _ => keeps_refl, [], rfl, List.nodup_nil, fun _ h => nomatch h⟩
/-- a slot is bound to what is new -/
theorem EnvOk.bind (E : EnvOk K S0 S σ Γ) (g : Gr S T) (i : Nat) {s' : Sl} {x' : Option V} {B' : List Addr} (h : SlO K S0 T s' (some x') B') (nd : B'.Nodup) (fr : ∀ a ∈ B', S.H a = none) : EnvOk K S0 T (σ.set i x') (Γ.set i s') :=
  E.step i g.ok fun B _ _ => ⟨fun _ _ => Keeps.gr g, B', h, nd, fun a ha => .inr (fr a ha)⟩
theorem SlO.own_tre {ds : List D} {x : Option (Option V)} {A : List Addr} : SlO K S0 S (.own ds) x A ↔ SlO K S0 S (.tre (.lst (ds.map .fz))) x A := by
  constructor
  · rintro ⟨l, xs, rfl, q, hp, w, r⟩
    refine ⟨_, q, ?_⟩
    unfold Ow
    exact ⟨l, xs, [], rfl, rfl, hp, w, OwL.of_fz r⟩
  · rintro ⟨v, q, r⟩
    unfold Ow at r
    obtain ⟨l, xs, B, rfl, rfl, hp, w, r⟩ := r
    obtain ⟨rfl, r'⟩ := r.to_fz
    exact ⟨l, xs, rfl, q, hp, w, r'⟩
theorem EnvOk.recast (E : EnvOk K S0 S σ Γ) (i : Nat) {s s' : Sl} (hi : Γ[i]? = some s) (h : ∀ A, SlO K S0 S s (σ[i]?) A → SlO K S0 S s' (σ[i]?) A) : EnvOk K S0 S σ (Γ.set i s') := by
  obtain ⟨A, h1, h2, h3, h4⟩ := E.fp
  have hl : i < Γ.length := (List.getElem?_eq_some_iff.mp hi).1
  refine ⟨E.ok, by simp [E.len], A, fun j t hs => ?_, h2, h3, fun j hn => ?_⟩
  · by_cases hj : j = i
    · subst hj
      rw [List.getElem?_set_self hl] at hs
      cases hs
      exact h _ (h1 j s hi)
    · rw [List.getElem?_set_ne (Ne.symm hj)] at hs
      exact h1 j t hs
  · have hj : j ≠ i := fun z => by
      subst z
      rw [List.getElem?_set_self hl] at hn
      cases hn
    rw [List.getElem?_set_ne (Ne.symm hj)] at hn
    exact h4 j hn
/-- what a slot owns is given up -/
theorem EnvOk.freezeT (E : EnvOk K S0 S σ Γ) (g : Gr S0 S) (i : Nat) {o : O} (hi : Γ[i]? = some (.tre o)) : ∃ A, EnvOk K S0 (S.frz A) σ (Γ.set i (.dat o.d)) ∧ Gr S0 (S.frz A) ∧ Le S (S.frz A) := by
  obtain ⟨A, h1, h2, h3, h4⟩ := E.fp
  obtain ⟨v, q, r⟩ := h1 i _ hi
  have th := r.there
  have hl : i < Γ.length := (List.getElem?_eq_some_iff.mp hi).1
  have gf : Gr S0 (S.frz (A i)) := g.frz fun a ha => ⟨(th a ha).1.f, (th a ha).1.m, (th a ha).1.n⟩
  refine ⟨A i, ⟨gf.ok, by simp [E.len], fun j => if j = i then [] else A j, fun j t hs => ?_, fun j k a hjk ha hb => ?_, fun j => ?_, fun j hn => ?_⟩, gf, Le.frz fun a ha => (th a ha).1.f⟩ <;> dsimp only at *
  · by_cases hj : j = i
    · subst hj
      rw [List.getElem?_set_self hl] at hs
      cases hs
      rw [if_pos rfl]
      exact ⟨rfl, v, q, r.frz (fun _ h => h) fun a ha => (th a ha).1.f⟩
    · rw [List.getElem?_set_ne (Ne.symm hj)] at hs
      rw [if_neg hj]
      exact (h1 j t hs).keeps (Keeps.frz (fun a ha => (th a ha).1.f) fun a ha hb => h2 j i a hj ha hb)
  · by_cases hj : j = i
    · rw [if_pos hj] at ha
      cases ha
    · by_cases hk : k = i
      · rw [if_pos hk] at hb
        cases hb
      · rw [if_neg hj] at ha
        rw [if_neg hk] at hb
        exact h2 j k a hjk ha hb
  · by_cases hj : j = i
    · rw [if_pos hj]; exact List.nodup_nil
    · rw [if_neg hj]; exact h3 j
  · by_cases hj : j = i
    · rw [if_pos hj]
    · rw [List.getElem?_set_ne (Ne.symm hj)] at hn
      rw [if_neg hj]
      exact h4 j hn
end
end Z

namespace Z
open PySem L2
/-! ### the world as it is looked at -/
def Wd.vw (T : Wd) : Wd := ⟨fun a => match T.M a with | none => T.H a | some _ => none, T.H, T.M⟩
section
variable {K : PySem.W.Frag} {S0 S T : Wd}
theorem vw_F {a : Addr} (h : T.M a = none) : T.vw.F a = T.H a := by
  show (match T.M a with | none => T.H a | some _ => none) = _
  rw [h]
theorem vw_N {a : Addr} {k : D} (h : T.M a = some k) : T.vw.F a = none := by
  show (match T.M a with | none => T.H a | some _ => none) = _
  rw [h]
theorem Le.vw (ok : T.Ok) : Le T T.vw := by
  refine ⟨fun a o e => ?_, fun _ _ e => e⟩
  rw [vw_F (ok.mfz e)]
  exact ok.sub a o e
theorem vw_le (g : Gr S T) : Le S.vw T.vw := by
  refine ⟨fun a o e => ?_, fun a k e => g.le.mu a k e⟩
  cases h : S.M a with
  | none =>
    rw [vw_F h] at e
    rw [vw_F (by rw [g.mu a o e, h])]
    exact g.hp a o e h
  | some k =>
    rw [vw_N h] at e
    cases e
theorem vw_ok (ok : T.Ok) : T.vw.Ok := by
  refine ⟨fun a o e => ?_, fun a k e => ?_, fun c q e => (Le.vw ok).fz _ _ (ok.cod c q e)⟩
  · cases h : T.M a with
    | none =>
      rw [vw_F h] at e
      exact e
    | some k =>
      rw [vw_N h] at e
      cases e
  · have e' : T.M a = some k := e
    exact ⟨vw_N e', (ok.kd a k e').2.stay (Le.vw ok) rfl⟩
theorem Ow.vw {o : O} {v : V} {A : List Addr} (ok : T.Ok) (h : Ow K S0 T o v A) : Rp K T.vw o.d v := by
  have th := h.there
  have l : Le (T.frz A) T.vw := by
    refine ⟨fun a u e => ?_, fun _ _ e => e⟩
    by_cases ha : a ∈ A
    · rw [frz_in ha] at e
      rw [vw_F (th a ha).1.m]
      exact e
    · rw [frz_out ha] at e
      exact (Le.vw ok).fz a u e
  exact (h.frz (fun _ h => h) fun a ha => (th a ha).1.f).mono l
end

/-! ### judgements -/
section
variable (K : PySem.W.Frag) (E : L2.St → XK)
/-- the value of an exception by its dict -/
def XV (T : Wd) : Option Addr → D → Prop
  | some dx, d => ∃ v, T.F dx = some (.xd [("value", v)]) ∧ Rp K T d v
  | none, d => d = .any
/-- what is wanted of an exception -/
def XP (E : XK) (S : Wd) (kx : Addr → D → Prop) : Prop := ∀ (T : Wd) (C : Addr) (o : Option Addr) (d : D), Gr S T → XV K T o d → kx C d → E (.ref C) o T.H
def EC (te : TE) (Γ : Ctx) (k : D → Prop) (kx : Addr → D → Prop) : Prop := ∀ (S0 S : Wd) (σ : L2.St) (Q : VK), EnvOk K S0 S σ Γ → (∀ (T : Wd) v d, Gr S T → Rp K T d v → k d → Q v T.H) → XP K (E σ) S kx → te σ S.H Q
def ET (tt : TT) (Γ : Ctx) (k : Bool → Prop) (kx : Addr → D → Prop) : Prop := ∀ (S0 S : Wd) (σ : L2.St) (Q : Bool → Hp → Prop), EnvOk K S0 S σ Γ → (∀ (T : Wd) b, Gr S T → k b → Q b T.H) → XP K (E σ) S kx → tt σ S.H Q
def EA (ta : TA) (Γ : Ctx) (k : List D → Prop) (kx : Addr → D → Prop) : Prop := ∀ (S0 S : Wd) (σ : L2.St) (Q : List V → Hp → Prop), EnvOk K S0 S σ Γ → (∀ (T : Wd) vs ds, Gr S T → RpL K T ds vs → k ds → Q vs T.H) → XP K (E σ) S kx → ta σ S.H Q
/-- a new list -/
def EN (te : TE) (Γ : Ctx) (k : List D → Prop) (kx : Addr → D → Prop) : Prop := ∀ (S0 S : Wd) (σ : L2.St) (Q : VK), EnvOk K S0 S σ Γ →
  (∀ (T : Wd) p xs ds, Gr S T → S.H p = none → T.H p = some (.lst xs) → T.F p = none → T.M p = none → RpL K T ds xs → k ds → Q (.ref p) T.H) → XP K (E σ) S kx → te σ S.H Q
/-- a list that may be read -/
def EL (te : TE) (Γ : Ctx) (k : List D → Prop) (kx : Addr → D → Prop) : Prop := ∀ (S0 S : Wd) (σ : L2.St) (Q : VK), EnvOk K S0 S σ Γ →
  (∀ (T : Wd) p xs ds, Gr S T → T.H p = some (.lst xs) → T.M p = none → RpL K T ds xs → k ds → Q (.ref p) T.H) → XP K (E σ) S kx → te σ S.H Q
/-- a new tree -/
def EW (te : TE) (Γ : Ctx) (k : O → Prop) (kx : Addr → D → Prop) : Prop := ∀ (S0 S : Wd) (σ : L2.St) (Q : VK), EnvOk K S0 S σ Γ → (∀ (T : Wd) v o A, Gr S T → Ow K S T o v A → A.Nodup → k o → Q v T.H) → XP K (E σ) S kx → te σ S.H Q
/-- arguments, some of them new -/
def EAW (ta : TA) (Γ : Ctx) (k : List O → Prop) (kx : Addr → D → Prop) : Prop := ∀ (S0 S : Wd) (σ : L2.St) (Q : List V → Hp → Prop), EnvOk K S0 S σ Γ → (∀ (T : Wd) vs os A, Gr S T → OwL K S T os vs A → A.Nodup → k os → Q vs T.H) → XP K (E σ) S kx → ta σ S.H Q
/-- what is looked at, whoever owns it -/
def EV (te : TE) (Γ : Ctx) (k : D → Prop) (kx : Addr → D → Prop) : Prop := ∀ (S0 S : Wd) (σ : L2.St) (Q : VK), EnvOk K S0 S σ Γ → (∀ (T : Wd) v d, Gr S T → Rp K T.vw d v → k d → Q v T.H) → XP K (E σ) S kx → te σ S.H Q
structure Po where
  nx : Ctx → Prop := fun _ => False
  rt : D → Prop := fun _ => False
  rn : List D → Prop := fun _ => False
  rw : O → Prop := fun _ => False
  bk : Ctx → Prop := fun _ => False
  ct : Ctx → Prop := fun _ => False
  kx : Ctx → Addr → D → Prop := fun _ _ _ => False
structure Goal (S0 S : Wd) (P : Po) (D : Ends) : Prop where
  nx : ∀ (T : Wd) τ Δ, Gr S0 T → Le S T → EnvOk K S0 T τ Δ → P.nx Δ → D.nx τ T.H
  rt : ∀ (T : Wd) v d, Gr S0 T → Rp K T d v → P.rt d → D.rt v T.H
  rn : ∀ (T : Wd) p xs ds, Gr S0 T → S0.H p = none → T.H p = some (.lst xs) → T.F p = none → T.M p = none → RpL K T ds xs → P.rn ds → D.rt (.ref p) T.H
  rw : ∀ (T : Wd) v o A, Gr S0 T → Ow K S0 T o v A → A.Nodup → P.rw o → D.rt v T.H
  bk : ∀ (T : Wd) τ Δ, Gr S0 T → Le S T → EnvOk K S0 T τ Δ → P.bk Δ → D.bk τ T.H
  ct : ∀ (T : Wd) τ Δ, Gr S0 T → Le S T → EnvOk K S0 T τ Δ → P.ct Δ → D.ct τ T.H
  kx : ∀ (T : Wd) τ Δ, Gr S0 T → Le S T → EnvOk K S0 T τ Δ → XP K (E τ) T (P.kx Δ)
def SC (ts : TS) (Γ : Ctx) (P : Po) : Prop := ∀ (S0 S : Wd) (σ : L2.St) (D : Ends), Gr S0 S → EnvOk K S0 S σ Γ → Goal K E S0 S P D → ts D σ S.H
end
section
variable {K : PySem.W.Frag} {E : L2.St → XK} {E1 : XK} {S0 S T : Wd} {te ta tb : TE} {tt uu : TT} {t u : TS} {Γ : Ctx} {k k' : D → Prop} {kx : Addr → D → Prop} {P : Po}
theorem XP.gr (h : XP K E1 S kx) (g : Gr S T) : XP K E1 T kx := fun U C o d g2 => h U C o d (g.trans g2)
theorem EC.mono (h : EC K E te Γ k kx) (hk : ∀ d, k d → k' d) : EC K E te Γ k' kx := fun S0 S σ Q e q x => h S0 S σ Q e (fun T v d g r kd => q T v d g r (hk d kd)) x
theorem EL.mono {k k' : List D → Prop} (h : EL K E te Γ k kx) (hk : ∀ d, k d → k' d) : EL K E te Γ k' kx := fun S0 S σ Q e q x => h S0 S σ Q e (fun T p xs ds g a b r kd => q T p xs ds g a b r (hk ds kd)) x
theorem EN.mono {k k' : List D → Prop} (h : EN K E te Γ k kx) (hk : ∀ d, k d → k' d) : EN K E te Γ k' kx := fun S0 S σ Q e q x => h S0 S σ Q e (fun T p xs ds g a b c d r kd => q T p xs ds g a b c d r (hk ds kd)) x
theorem ET.mono {k k' : Bool → Prop} (h : ET K E tt Γ k kx) (hk : ∀ d, k d → k' d) : ET K E tt Γ k' kx := fun S0 S σ Q e q x => h S0 S σ Q e (fun T b g kd => q T b g (hk b kd)) x
theorem EA.mono {t : TA} {k k' : List D → Prop} (h : EA K E t Γ k kx) (hk : ∀ d, k d → k' d) : EA K E t Γ k' kx := fun S0 S σ Q e q x => h S0 S σ Q e (fun T vs ds g r kd => q T vs ds g r (hk ds kd)) x
theorem Goal.le {D : Ends} (G : Goal K E S0 S P D) (l : Le S T) : Goal K E S0 T P D :=
  ⟨fun U τ Δ g l2 => G.nx U τ Δ g (l.trans l2), G.rt, G.rn, G.rw, fun U τ Δ g l2 => G.bk U τ Δ g (l.trans l2), fun U τ Δ g l2 => G.ct U τ Δ g (l.trans l2), fun U τ Δ g l2 => G.kx U τ Δ g (l.trans l2)⟩
/-- freeze what is new -/
theorem ec_new (h : EN K E te Γ (fun ds => k (.lst ds)) kx) : EC K E te Γ k kx := fun S0 S σ Q e q x =>
  h S0 S σ Q e (fun T p xs ds g hn hp hf hm r kd => q ⟨upd T.F p (.lst xs), T.H, T.M⟩ (.ref p) (.lst ds) (g.freeze hn hp hm) (by
    unfold Rp
    exact ⟨p, xs, rfl, upd_same, r.mono (Le.freeze hf)⟩) kd) x
theorem el_new {k : List D → Prop} (h : EN K E te Γ k kx) : EL K E te Γ k kx := fun S0 S σ Q e q x =>
  h S0 S σ Q e (fun T p xs ds g hn hp hf hm r kd => q T p xs ds g hp hm r kd) x
theorem el_dat {k : List D → Prop} (h : EC K E te Γ (fun d => ∃ ds, d = .lst ds ∧ k ds) kx) : EL K E te Γ k kx := fun S0 S σ Q e q x =>
  h S0 S σ Q e (fun T v d g r ⟨ds, ed, kd⟩ => by
    subst ed
    unfold Rp at r
    obtain ⟨a, xs, rfl, f, r⟩ := r
    exact q T a xs ds g (g.ok.sub _ _ f) (g.ok.mfz f) r kd) x
theorem el_own {k : List D → Prop} {i : Nat} {ds : List D} (h : Γ[i]? = some (.own ds)) (hk : k ds) : EL K E (tVar i) Γ k kx := fun S0 S σ Q e q x => by
  obtain ⟨l, xs, h1, h2, h3, h4, _, r⟩ := e.own i ds h
  exact ⟨_, h1, q S l xs ds (Gr.refl e.ok) h2 h4 r hk⟩
theorem EW.mono {k k' : O → Prop} (h : EW K E te Γ k kx) (hk : ∀ d, k d → k' d) : EW K E te Γ k' kx := fun S0 S σ Q e q x => h S0 S σ Q e (fun T v o A g r n kd => q T v o A g r n (hk o kd)) x
theorem EV.mono (h : EV K E te Γ k kx) (hk : ∀ d, k d → k' d) : EV K E te Γ k' kx := fun S0 S σ Q e q x => h S0 S σ Q e (fun T v d g r kd => q T v d g r (hk d kd)) x
theorem EAW.mono {t : TA} {k k' : List O → Prop} (h : EAW K E t Γ k kx) (hk : ∀ d, k d → k' d) : EAW K E t Γ k' kx := fun S0 S σ Q e q x => h S0 S σ Q e (fun T vs os A g r n kd => q T vs os A g r n (hk os kd)) x
theorem nodup1 {a : Addr} : [a].Nodup := by simp
/-- a new list is a new tree -/
theorem ew_new (k : O → Prop) (h : EN K E te Γ (fun ds => k (.lst (ds.map .fz))) kx) : EW K E te Γ k kx := fun S0 S σ Q e q x =>
  h S0 S σ Q e (fun T p xs ds g hn hp hf hm r kd => q T (.ref p) _ [p] g (by
    unfold Ow
    exact ⟨p, xs, [], rfl, rfl, hp, ⟨hf, hm, hn⟩, OwL.of_fz r⟩) nodup1 kd) x
/-- data count as trees -/
theorem ew_dat (k : O → Prop) (h : EC K E te Γ (fun d => k (.fz d)) kx) : EW K E te Γ k kx := fun S0 S σ Q e q x =>
  h S0 S σ Q e (fun T v d g r kd => q T v (.fz d) [] g (by
    unfold Ow
    exact ⟨rfl, r⟩) List.nodup_nil kd) x
/-- a new tree is given up -/
theorem ec_ofW (h : EW K E te Γ (fun o => k o.d) kx) : EC K E te Γ k kx := fun S0 S σ Q e q x =>
  h S0 S σ Q e (fun T v o A g r n kd => by
    have th := r.there
    exact q (T.frz A) v o.d (g.frz fun a ha => ⟨(th a ha).1.f, (th a ha).1.m, (th a ha).1.n⟩) (r.frz (fun _ h => h) fun a ha => (th a ha).1.f) kd) x
theorem ev_ec (h : EC K E te Γ k kx) : EV K E te Γ k kx := fun S0 S σ Q e q x =>
  h S0 S σ Q e (fun T v d g r kd => q T v d g (r.mono (Le.vw g.ok)) kd) x
theorem ev_tre {i : Nat} {o : O} (h : Γ[i]? = some (.tre o)) (hk : k o.d) : EV K E (tVar i) Γ k kx := fun S0 S σ Q e q x => by
  obtain ⟨v, A, h1, r, _⟩ := e.tre i o h
  exact ⟨v, h1, q S v o.d (Gr.refl e.ok) (r.vw e.ok) hk⟩
theorem ev_el (h : EL K E te Γ (fun ds => k (.lst ds)) kx) : EV K E te Γ k kx := fun S0 S σ Q e q x =>
  h S0 S σ Q e (fun T p xs ds g hp hm r kd => q T (.ref p) (.lst ds) g (by
    unfold Rp
    exact ⟨p, xs, rfl, by rw [vw_F hm]; exact hp, r.mono (Le.vw g.ok)⟩) kd) x
theorem ec_var {i : Nat} {d : D} (h : Γ[i]? = some (.dat d)) (hk : k d) : EC K E (tVar i) Γ k kx := fun S0 S σ Q e q x => by
  obtain ⟨v, h1, r⟩ := e.dat i d h
  exact ⟨v, h1, q S v d (Gr.refl e.ok) r hk⟩
theorem el_var {k : List D → Prop} {i : Nat} {ds : List D} (h : Γ[i]? = some (.dat (.lst ds))) (hk : k ds) : EL K E (tVar i) Γ k kx := el_dat (ec_var h ⟨ds, rfl, hk⟩)
theorem ec_c {v : V} {d : D} (h : ∀ S : Wd, Rp K S d v) (hk : k d) : EC K E (tC v) Γ k kx := fun S0 S σ Q e q x => q S v d (Gr.refl e.ok) (h S) hk
theorem ec_int {i : Int} (hk : k (.int i)) : EC K E (tC (.int i)) Γ k kx := ec_c (fun _ => by unfold Rp; rfl) hk
theorem ec_bl {i : Bool} (hk : k (.bl i)) : EC K E (tC (.bl i)) Γ k kx := ec_c (fun _ => by unfold Rp; rfl) hk
theorem ec_str {i : Str} (hk : k (.str i)) : EC K E (tC (.str i)) Γ k kx := ec_c (fun _ => by unfold Rp; rfl) hk
theorem ec_non (hk : k .non) : EC K E (tC .non) Γ k kx := ec_c (fun _ => by unfold Rp; rfl) hk
theorem ec_val {v : V} (hk : k (.val v)) : EC K E (tC v) Γ k kx := ec_c (fun _ => by unfold Rp; rfl) hk

/-! ### operators by data -/
def RD (K : PySem.W.Frag) (r : R2) (x y : D) (k : D → Prop) : Prop := ∀ (S : Wd) (Q : VK) (v w : V), S.Ok → Rp K S x v → Rp K S y w → (∀ (T : Wd) u d, Gr S T → Rp K T d u → k d → Q u T.H) → r v w S.H Q
theorem ec_op {r : R2} (h : EC K E ta Γ (fun x => EC K E tb Γ (fun y => RD K r x y k) kx) kx) : EC K E (tOp r ta tb) Γ k kx := fun S0 S σ Q e q x =>
  h S0 S σ _ e (fun T v d g r1 h2 => h2 S0 T σ _ (e.gr g) (fun U w d2 g2 r2 h3 => h3 U Q v w g2.ok (r1.mono g2.le) r2 fun W u d3 g3 r3 kd => q W u d3 ((g.trans g2).trans g3) r3 kd) (x.gr g)) x
theorem rd_int {f : Int → Int → Int} {i j : Int} (hk : k (.int (f i j))) : RD K (rI0 fun i j => .int (f i j)) (.int i) (.int j) k := fun S Q v w ok r1 r2 q =>
  ⟨i, j, r1.int, r2.int, q S _ _ (Gr.refl ok) (by unfold Rp; rfl) hk⟩
theorem rd_bool {f : Int → Int → Bool} {i j : Int} (hk : k (.bl (f i j))) : RD K (rI0 fun i j => .bl (f i j)) (.int i) (.int j) k := fun S Q v w ok r1 r2 q =>
  ⟨i, j, r1.int, r2.int, q S _ _ (Gr.refl ok) (by unfold Rp; rfl) hk⟩
theorem rd_intC {C : Int → Int → Prop} {f : Int → Int → Int} {i j : Int} (hc : C i j) (hk : k (.int (f i j))) : RD K (rI C fun i j => .int (f i j)) (.int i) (.int j) k := fun S Q v w ok r1 r2 q =>
  ⟨i, j, r1.int, r2.int, hc, q S _ _ (Gr.refl ok) (by unfold Rp; rfl) hk⟩
theorem dec_v {i j : Int} : decide (V.int i = V.int j) = decide (i = j) := by
  by_cases h : i = j
  · subst h
    simp
  · rw [decide_eq_false h]
    exact decide_eq_false fun z => h (V.int.inj z)
theorem dec_vs {i j : Str} : decide (V.str i = V.str j) = decide (i = j) := by
  by_cases h : i = j
  · subst h
    simp
  · rw [decide_eq_false h]
    exact decide_eq_false fun z => h (V.str.inj z)
theorem rd_eqI {i j : Int} (hk : k (.bl (decide (i = j)))) : RD K rEq (.int i) (.int j) k := fun S Q v w ok r1 r2 q => by
  rw [r1.int, r2.int]
  exact ⟨rfl, by rw [dec_v]; exact q S _ _ (Gr.refl ok) (by unfold Rp; rfl) hk⟩
theorem rd_neI {i j : Int} (hk : k (.bl (!decide (i = j)))) : RD K rNe (.int i) (.int j) k := fun S Q v w ok r1 r2 q => by
  rw [r1.int, r2.int]
  exact ⟨rfl, by rw [dec_v]; exact q S _ _ (Gr.refl ok) (by unfold Rp; rfl) hk⟩
theorem rd_eqS {i j : Str} (hk : k (.bl (decide (i = j)))) : RD K rEq (.str i) (.str j) k := fun S Q v w ok r1 r2 q => by
  unfold Rp at r1 r2
  rw [r1, r2]
  exact ⟨rfl, by rw [dec_vs]; exact q S _ _ (Gr.refl ok) (by unfold Rp; rfl) hk⟩
theorem rd_neS {i j : Str} (hk : k (.bl (!decide (i = j)))) : RD K rNe (.str i) (.str j) k := fun S Q v w ok r1 r2 q => by
  unfold Rp at r1 r2
  rw [r1, r2]
  exact ⟨rfl, by rw [dec_vs]; exact q S _ _ (Gr.refl ok) (by unfold Rp; rfl) hk⟩
theorem ec_neg {f : Int → Int} (h : EC K E ta Γ (fun x => ∃ i, x = .int i ∧ k (.int (f i))) kx) : EC K E (tUn (rU fun i => .int (f i)) ta) Γ k kx := fun S0 S σ Q e q x =>
  h S0 S σ _ e (fun T v d g r ⟨i, ed, kd⟩ => by
    subst ed
    exact ⟨i, r.int, q T _ _ g (by unfold Rp; rfl) kd⟩) x

/-! ### deep equality -/
mutual
def D.py : D → PyData
  | .non => .none
  | .bl b => .bool b
  | .int i => .int i
  | .str x => .str x
  | .lst ds => .list (D.pys ds)
  | .tup ds => .tuple (D.pys ds)
  | .dic _ _ _ => .dict []
  | _ => .none
def D.pys : List D → List PyData
  | [] => []
  | d :: ds => d.py :: D.pys ds
end
mutual
/-- plain data -/
def D.pl : D → Bool
  | .non => true
  | .bl _ => true
  | .int _ => true
  | .str _ => true
  | .lst ds => D.pls ds
  | .tup ds => D.pls ds
  | _ => false
def D.pls : List D → Bool
  | [] => true
  | d :: ds => d.pl && D.pls ds
end
mutual
theorem Rp.dp (ok : S.Ok) : ∀ {d : D} {v : V}, d.pl = true → Rp K S d v → Dp K S.H v d.py
  | .non, v, _, h => by unfold Rp at h; subst h; unfold D.py; exact .non
  | .bl b, v, _, h => by unfold Rp at h; subst h; unfold D.py; exact .bl b
  | .int i, v, _, h => by unfold Rp at h; subst h; unfold D.py; exact .int i
  | .str x, v, _, h => by unfold Rp at h; subst h; unfold D.py; exact .str x
  | .lst ds, v, p, h => by
    unfold Rp at h
    obtain ⟨a, xs, rfl, f, r⟩ := h
    unfold D.pl at p
    unfold D.py
    exact .lst (SqL.of (ok.sub _ _ f)) (RpL.dp ok p r)
  | .tup ds, v, p, h => by
    unfold Rp at h
    obtain ⟨a, xs, rfl, f, r⟩ := h
    unfold D.pl at p
    unfold D.py
    exact .tup (sqt_mono ok.sub f) (RpL.dp ok p r)
  | .scr _, _, p, _ => by unfold D.pl at p; cases p
  | .pool, _, p, _ => by unfold D.pl at p; cases p
  | .any, _, p, _ => by unfold D.pl at p; cases p
  | .val _, _, p, _ => by unfold D.pl at p; cases p
  | .ins _ _ _, _, p, _ => by unfold D.pl at p; cases p
  | .dic _ _ _, _, p, _ => by unfold D.pl at p; cases p
  | .memo _, _, p, _ => by unfold D.pl at p; cases p
  | .tab _, _, p, _ => by unfold D.pl at p; cases p
  | .exc _ _ _, _, p, _ => by unfold D.pl at p; cases p
theorem RpL.dp (ok : S.Ok) : ∀ {ds : List D} {vs : List V}, D.pls ds = true → RpL K S ds vs → DpAll K S.H vs (D.pys ds)
  | [], vs, _, h => by rw [h.nil_inv]; unfold D.pys; exact .nil
  | d :: ds, vs, p, h => by
    obtain ⟨y, ys, rfl, r, t⟩ := h.cons_inv
    unfold D.pls at p
    rw [Bool.and_eq_true] at p
    unfold D.pys
    exact .cons (Rp.dp ok p.1 r) (RpL.dp ok p.2 t)
end
/-- == of data -/
theorem ec_eqD (h : EC K E ta Γ (fun x => EC K E tb Γ (fun y => x.pl = true ∧ y.pl = true ∧ SeqAt.shaped x.py = true ∧ SeqAt.shaped y.py = true ∧ k (.bl (PyData.eqv x.py y.py))) kx) kx) : EC K E (tOp (rEqD K) ta tb) Γ k kx :=
  ec_op (h.mono fun x hx => EC.mono hx fun y ⟨p1, p2, s1, s2, kd⟩ S Q v w ok r1 r2 q => ⟨x.py, y.py, Rp.dp ok p1 r1, Rp.dp ok p2 r2, s1, s2, q S _ _ (Gr.refl ok) (by unfold Rp; rfl) kd⟩)
theorem ec_neD (h : EC K E ta Γ (fun x => EC K E tb Γ (fun y => x.pl = true ∧ y.pl = true ∧ SeqAt.shaped x.py = true ∧ SeqAt.shaped y.py = true ∧ k (.bl (!PyData.eqv x.py y.py))) kx) kx) : EC K E (tOp (rNeD K) ta tb) Γ k kx :=
  ec_op (h.mono fun x hx => EC.mono hx fun y ⟨p1, p2, s1, s2, kd⟩ S Q v w ok r1 r2 q => ⟨x.py, y.py, Rp.dp ok p1 r1, Rp.dp ok p2 r2, s1, s2, q S _ _ (Gr.refl ok) (by unfold Rp; rfl) kd⟩)

/-! ### tests -/
theorem et_test {kb : Bool → Prop} (h : EC K E te Γ (fun x => ∃ b, x = .bl b ∧ kb b) kx) : ET K E (tTest te) Γ kb kx := fun S0 S σ Q e q x =>
  h S0 S σ _ e (fun T v d g r ⟨b, ed, kd⟩ => by
    subst ed
    unfold Rp at r
    exact ⟨b, r, q T b g kd⟩) x
theorem et_B {kb : Bool → Prop} (h : EC K E te Γ (fun x => ∃ b, x = .bl b ∧ kb b) kx) : ET K E (tB te) Γ kb kx := fun S0 S σ Q e q x =>
  h S0 S σ _ e (fun T v d g r ⟨b, ed, kd⟩ => by
    subst ed
    unfold Rp at r
    exact ⟨b, r, q T b g kd⟩) x
theorem et_not {kb : Bool → Prop} (h : ET K E tt Γ (fun b => kb (!b)) kx) : ET K E (tNot tt) Γ kb kx := fun S0 S σ Q e q x =>
  h S0 S σ _ e (fun T b g kd => q T (!b) g kd) x
theorem et_and {kb : Bool → Prop} (h : ET K E tt Γ (fun b => if b = true then ET K E uu Γ kb kx else kb false) kx) : ET K E (tAnd tt uu) Γ kb kx := fun S0 S σ Q e q x =>
  h S0 S σ _ e (fun T b g kd => by
    cases b with
    | true =>
      have h2 : ET K E uu Γ kb kx := kd
      show uu σ T.H Q
      exact h2 S0 T σ Q (e.gr g) (fun U b g2 kd => q U b (g.trans g2) kd) (x.gr g)
    | false =>
      show Q false T.H
      exact q T false g kd) x
theorem et_or {kb : Bool → Prop} (h : ET K E tt Γ (fun b => if b = true then kb true else ET K E uu Γ kb kx) kx) : ET K E (tOr tt uu) Γ kb kx := fun S0 S σ Q e q x =>
  h S0 S σ _ e (fun T b g kd => by
    cases b with
    | false =>
      have h2 : ET K E uu Γ kb kx := kd
      show uu σ T.H Q
      exact h2 S0 T σ Q (e.gr g) (fun U b g2 kd => q U b (g.trans g2) kd) (x.gr g)
    | true =>
      show Q true T.H
      exact q T true g kd) x
theorem ec_andV (h : EC K E ta Γ (fun x => ∃ b, x = .bl b ∧ if b = true then EC K E tb Γ k kx else k (.bl false)) kx) : EC K E (tAndV ta tb) Γ k kx := fun S0 S σ Q e q x =>
  h S0 S σ _ e (fun T v d g r ⟨b, ed, kd⟩ => by
    subst ed
    unfold Rp at r
    refine ⟨b, r, ?_⟩
    cases b with
    | true =>
      have h2 : EC K E tb Γ k kx := kd
      show tb σ T.H Q
      exact h2 S0 T σ Q (e.gr g) (fun U v d g2 r kd => q U v d (g.trans g2) r kd) (x.gr g)
    | false =>
      show Q (.bl false) T.H
      exact q T _ _ g (by unfold Rp; rfl) kd) x
theorem ec_orV (h : EC K E ta Γ (fun x => ∃ b, x = .bl b ∧ if b = true then k (.bl true) else EC K E tb Γ k kx) kx) : EC K E (tOrV ta tb) Γ k kx := fun S0 S σ Q e q x =>
  h S0 S σ _ e (fun T v d g r ⟨b, ed, kd⟩ => by
    subst ed
    unfold Rp at r
    refine ⟨b, r, ?_⟩
    cases b with
    | false =>
      have h2 : EC K E tb Γ k kx := kd
      show tb σ T.H Q
      exact h2 S0 T σ Q (e.gr g) (fun U v d g2 r kd => q U v d (g.trans g2) r kd) (x.gr g)
    | true =>
      show Q (.bl true) T.H
      exact q T _ _ g (by unfold Rp; rfl) kd) x
theorem ec_notV (h : EC K E ta Γ (fun x => ∃ b, x = .bl b ∧ k (.bl (!b))) kx) : EC K E (tNotV ta) Γ k kx := fun S0 S σ Q e q x =>
  h S0 S σ _ e (fun T v d g r ⟨b, ed, kd⟩ => by
    subst ed
    unfold Rp at r
    exact ⟨b, r, q T _ _ g (by unfold Rp; rfl) kd⟩) x
theorem ec_if (h : ET K E tt Γ (fun b => if b = true then EC K E ta Γ k kx else EC K E tb Γ k kx) kx) : EC K E (tIf tt ta tb) Γ k kx := fun S0 S σ Q e q x =>
  h S0 S σ _ e (fun T b g kd => by
    cases b with
    | true =>
      have h2 : EC K E ta Γ k kx := kd
      show ta σ T.H Q
      exact h2 S0 T σ Q (e.gr g) (fun U v d g2 r kd => q U v d (g.trans g2) r kd) (x.gr g)
    | false =>
      have h2 : EC K E tb Γ k kx := kd
      show tb σ T.H Q
      exact h2 S0 T σ Q (e.gr g) (fun U v d g2 r kd => q U v d (g.trans g2) r kd) (x.gr g)) x
theorem ec_isN (h : EC K E ta Γ (fun x => k (.bl (match x with | .non => true | _ => false)) ∧ (match x with | .val _ => False | .any => False | _ => True)) kx) : EC K E (tIsN ta) Γ k kx := fun S0 S σ Q e q x =>
  h S0 S σ _ e (fun T v d g r ⟨kd, hx⟩ => by
    refine q T _ _ g ?_ kd
    unfold Rp
    cases d <;> unfold Rp at r <;> first | exact hx.elim | (subst r; rfl) | (obtain ⟨r, _⟩ := r; subst r; rfl) | (obtain ⟨_, r, _⟩ := r; subst r; rfl) | (obtain ⟨_, _, r, _⟩ := r; subst r; rfl) | (obtain ⟨_, _, _, r, _⟩ := r; subst r; rfl)) x

/-! ### arguments -/
theorem ea_nil {kl : List D → Prop} (h : kl []) : EA K E tNil Γ kl kx := fun S0 S σ Q e q x => q S [] [] (Gr.refl e.ok) RpL.nil h
theorem ea_cons {t : TA} {kl : List D → Prop} (h : EC K E te Γ (fun d => EA K E t Γ (fun ds => kl (d :: ds)) kx) kx) : EA K E (tCons te t) Γ kl kx := fun S0 S σ Q e q x =>
  h S0 S σ _ e (fun T v d g r h2 => h2 S0 T σ _ (e.gr g) (fun U vs ds g2 r2 kd => q U _ _ (g.trans g2) (RpL.cons (r.mono g2.le) r2) kd) (x.gr g)) x
theorem en_lst {t : TA} {kl : List D → Prop} (h : EA K E t Γ (fun ds => ds.length ≤ 1000 ∧ kl ds) kx) : EN K E (tLst t) Γ kl kx := fun S0 S σ Q e q x =>
  h S0 S σ _ e (fun T vs ds g r ⟨hl, kd⟩ => ⟨by rw [r.length]; exact Nat.le_trans hl (by decide), fun p hn => by
    have g2 := Gr.layO g.ok hn (.lst vs)
    exact q ⟨T.F, upd T.H p (.lst vs), T.M⟩ p vs ds (g.trans g2) (g.new hn) upd_same (g.ok.fnone hn) (g.ok.mnone hn) (r.mono g2.le) kd⟩) x
theorem ec_tup {t : TA} (h : EA K E t Γ (fun ds => ds.length ≤ 1000 ∧ k (.tup ds)) kx) : EC K E (tTup t) Γ k kx := fun S0 S σ Q e q x =>
  h S0 S σ _ e (fun T vs ds g r ⟨hl, kd⟩ => ⟨by rw [r.length]; exact Nat.le_trans hl (by decide), fun p hn => by
    have g2 := Gr.lay g.ok hn (.tup vs)
    exact q ⟨upd T.F p (.tup vs), upd T.H p (.tup vs), T.M⟩ _ (.tup ds) (g.trans g2) (by
      unfold Rp
      exact ⟨p, vs, rfl, SqT.of upd_same, r.mono g2.le⟩) kd⟩) x
end
end Z

namespace Z
open PySem PySem.Spec PyProof.Rows L2
section
variable {K : PySem.W.Frag} {E : L2.St → XK} {S0 S T : Wd} {te ta tb tc : TE} {tt uu : TT} {t u : TS} {Γ : Ctx} {k k' : D → Prop} {kx : Addr → D → Prop} {P : Po} {kl : List D → Prop}

/-! ### statements -/
theorem sc_seq (h : SC K E t Γ { P with nx := fun Δ => SC K E u Δ P }) : SC K E (tSeq t u) Γ P := fun S0 S σ D g e G =>
  h S0 S σ { D with nx := u D } g e ⟨fun T τ Δ g2 l2 e2 h2 => h2 S0 T τ D g2 e2 (G.le l2), G.rt, G.rn, G.rw, G.bk, G.ct, G.kx⟩
theorem sc_next (h : P.nx Γ) : SC K E tNext Γ P := fun S0 S σ D g e G => G.nx S σ Γ g (Le.refl S) e h
theorem sc_never (h : False) : SC K E tNever Γ P := h.elim
theorem sc_break (h : P.bk Γ) : SC K E tBreak Γ P := fun S0 S σ D g e G => G.bk S σ Γ g (Le.refl S) e h
theorem sc_cont (h : P.ct Γ) : SC K E tCont Γ P := fun S0 S σ D g e G => G.ct S σ Γ g (Le.refl S) e h
theorem sc_ret (h : EC K E te Γ P.rt (P.kx Γ)) : SC K E (tRet te) Γ P := fun S0 S σ D g e G =>
  h S0 S σ _ e (fun T v d g2 r kd => G.rt T v d (g.trans g2) r kd) (G.kx S σ Γ g (Le.refl S) e)
theorem sc_retNew (h : EN K E te Γ P.rn (P.kx Γ)) : SC K E (tRet te) Γ P := fun S0 S σ D g e G =>
  h S0 S σ _ e (fun T p xs ds g2 hn hp hf hm r kd => G.rn T p xs ds (g.trans g2) (g.new hn) hp hf hm r kd) (G.kx S σ Γ g (Le.refl S) e)
theorem sc_retOwn {i : Nat} {ds : List D} (h : Γ[i]? = some (.own ds)) (hk : P.rn ds) : SC K E (tRet (tVar i)) Γ P := fun S0 S σ D g e G => by
  obtain ⟨l, xs, h1, h2, h3, h4, h0, r⟩ := e.own i ds h
  exact ⟨_, h1, G.rn S l xs ds g h0 h2 h3 h4 r hk⟩
theorem sc_retOwnD {i : Nat} {ds : List D} (h : Γ[i]? = some (.own ds)) (hk : P.rt (.lst ds)) : SC K E (tRet (tVar i)) Γ P := fun S0 S σ D g e G => by
  obtain ⟨l, xs, h1, h2, h3, h4, h0, r⟩ := e.own i ds h
  refine ⟨_, h1, G.rt ⟨upd S.F l (.lst xs), S.H, S.M⟩ _ (.lst ds) (g.freeze h0 h2 h4) ?_ hk⟩
  unfold Rp
  exact ⟨l, xs, rfl, upd_same, r.mono (Le.freeze h3)⟩
theorem sc_retN (h : P.rt .non) : SC K E tRetN Γ P := fun S0 S σ D g e G => G.rt S .non .non g (by unfold Rp; rfl) h
theorem sc_drop (h : EC K E te Γ (fun _ => P.nx Γ) (P.kx Γ)) : SC K E (tDrop te) Γ P := fun S0 S σ D g e G =>
  h S0 S σ _ e (fun T v d g2 r kd => G.nx T σ Γ (g.trans g2) g2.le (e.gr g2) kd) (G.kx S σ Γ g (Le.refl S) e)
theorem sc_if (h : ET K E tt Γ (fun b => if b = true then SC K E t Γ P else SC K E u Γ P) (P.kx Γ)) : SC K E (tIfS tt t u) Γ P := fun S0 S σ D g e G =>
  h S0 S σ _ e (fun T b g2 kd => by
    cases b with
    | true =>
      have h2 : SC K E t Γ P := kd
      exact h2 S0 T σ D (g.trans g2) (e.gr g2) (G.le g2.le)
    | false =>
      have h2 : SC K E u Γ P := kd
      exact h2 S0 T σ D (g.trans g2) (e.gr g2) (G.le g2.le)) (G.kx S σ Γ g (Le.refl S) e)
theorem sc_asg {i : Nat} (h : EC K E te Γ (fun d => P.nx (Γ.set i (.dat d))) (P.kx Γ)) : SC K E (tAsg te (gName i)) Γ P := fun S0 S σ D g e G =>
  h S0 S σ _ e (fun T v d g2 r kd => G.nx T _ _ (g.trans g2) g2.le ((e.gr g2).setDat r) kd) (G.kx S σ Γ g (Le.refl S) e)
theorem EnvOk.bindOwn {σ : L2.St} (e : EnvOk K S0 S σ Γ) (g : Gr S T) (i : Nat) {p : Addr} {xs : List V} {ds : List D} (h0 : S0.H p = none) (hn : S.H p = none) (hp : T.H p = some (.lst xs)) (hf : T.F p = none) (hm : T.M p = none) (r : RpL K T ds xs) : EnvOk K S0 T (σ.set i (some (.ref p))) (Γ.set i (.own ds)) :=
  e.bind g i (B' := [p]) ⟨p, xs, rfl, rfl, hp, ⟨hf, hm, h0⟩, r⟩ nodup1 fun a ha => by
    rw [List.mem_singleton.mp ha]
    exact hn
theorem sc_asgNew {i : Nat} (h : EN K E te Γ (fun ds => P.nx (Γ.set i (.own ds))) (P.kx Γ)) : SC K E (tAsg te (gName i)) Γ P := fun S0 S σ D g e G =>
  h S0 S σ _ e (fun T p xs ds g2 hn hp hf hm r kd => G.nx T _ _ (g.trans g2) g2.le (e.bindOwn g2 i (g.new hn) hn hp hf hm r) kd) (G.kx S σ Γ g (Le.refl S) e)
/-- a tree of one's own is given up: it is data from now on -/
theorem sc_freezeT (i : Nat) {o : O} (h : Γ[i]? = some (.tre o)) (hs : SC K E t (Γ.set i (.dat o.d)) P) : SC K E t Γ P := fun S0 S σ D g e G => by
  obtain ⟨A, e2, g2, l2⟩ := e.freezeT g i h
  exact hs S0 (S.frz A) σ D g2 e2 (G.le l2)
/-- a list of one's own is a tree -/
theorem sc_ownT (i : Nat) {ds : List D} (h : Γ[i]? = some (.own ds)) (hs : SC K E t (Γ.set i (.tre (.lst (ds.map .fz)))) P) : SC K E t Γ P := fun S0 S σ D g e G =>
  hs S0 S σ D g (e.recast i h fun A => SlO.own_tre.mp) G
theorem sc_treO (i : Nat) {ds : List D} (h : Γ[i]? = some (.tre (.lst (ds.map .fz)))) (hs : SC K E t (Γ.set i (.own ds)) P) : SC K E t Γ P := fun S0 S σ D g e G =>
  hs S0 S σ D g (e.recast i h fun A => SlO.own_tre.mpr) G
theorem map_fz (ds : List D) : (ds.map O.fz).map O.d = ds := by
  rw [List.map_map]
  induction ds with
  | nil => rfl
  | cons d ds ih =>
    rw [List.map_cons, ih]
    show (O.fz d).d :: ds = _
    rw [O.d]
theorem lst_fz (ds : List D) : (O.lst (ds.map O.fz)).d = .lst ds := by rw [O.d, O.ds_eq, map_fz]
theorem sc_freeze (i : Nat) {ds : List D} (h : Γ[i]? = some (.own ds)) (hs : SC K E t (Γ.set i (.dat (.lst ds))) P) : SC K E t Γ P := by
  have hi : i < Γ.length := (List.getElem?_eq_some_iff.mp h).1
  refine sc_ownT i h (sc_freezeT i (List.getElem?_set_self hi) ?_)
  rw [List.set_set, lst_fz]
  exact hs
theorem sc_pass (h : P.nx Γ) : SC K E tNext Γ P := sc_next h
theorem sc_cut (M : Ctx → Prop) (h : SC K E t Γ { P with nx := M }) (h2 : ∀ Δ, M Δ → SC K E u Δ P) : SC K E (tSeq t u) Γ P := sc_seq fun S0 S σ D g e G =>
  h S0 S σ D g e ⟨fun T τ Δ a b c m => G.nx T τ Δ a b c (h2 Δ m), G.rt, G.rn, G.rw, G.bk, G.ct, G.kx⟩
theorem SC.mono {P' : Po} (h : SC K E t Γ P) (h1 : ∀ Δ, P.nx Δ → P'.nx Δ) (h2 : ∀ d, P.rt d → P'.rt d) (h3 : ∀ d, P.rn d → P'.rn d) (h7 : ∀ d, P.rw d → P'.rw d) (h4 : ∀ Δ, P.bk Δ → P'.bk Δ) (h5 : ∀ Δ, P.ct Δ → P'.ct Δ) (h6 : ∀ Δ C d, P.kx Δ C d → P'.kx Δ C d) : SC K E t Γ P' := fun S0 S σ D g e G =>
  h S0 S σ D g e ⟨fun T τ Δ a b c m => G.nx T τ Δ a b c (h1 Δ m), fun T v d a b c => G.rt T v d a b (h2 d c), fun T p xs ds a b c d e f m => G.rn T p xs ds a b c d e f (h3 ds m), fun T v o A a b c m => G.rw T v o A a b c (h7 o m), fun T τ Δ a b c m => G.bk T τ Δ a b c (h4 Δ m), fun T τ Δ a b c m => G.ct T τ Δ a b c (h5 Δ m), fun T τ Δ a b c U C o d g x m => G.kx T τ Δ a b c U C o d g x (h6 Δ C d m)⟩

/-! ### an own list is changed -/
theorem EnvOk.change {σ : L2.St} {i : Nat} {ds es : List D} {l : Addr} {ys : List V} (e : EnvOk K S0 S σ Γ) (h : Γ[i]? = some (.own ds)) (h1 : σ[i]? = some (some (.ref l))) (r : RpL K S es ys) :
    EnvOk K S0 ⟨S.F, upd S.H l (.lst ys), S.M⟩ σ (Γ.set i (.own es)) ∧ Le S ⟨S.F, upd S.H l (.lst ys), S.M⟩ ∧ (Gr S0 S → Gr S0 ⟨S.F, upd S.H l (.lst ys), S.M⟩) := by
  obtain ⟨l', xs, a1, a2, a3, a4, a5, a6⟩ := e.own i ds h
  rw [h1] at a1
  cases a1
  have ok : Wd.Ok ⟨S.F, upd S.H l (.lst ys), S.M⟩ := e.ok.change a3 a4
  have es : σ.set i (some (.ref l)) = σ := by
    apply List.ext_getElem?
    intro j
    by_cases hj : i = j
    · subst hj
      rw [List.getElem?_set_self (List.getElem?_eq_some_iff.mp h1).1, h1]
    · rw [List.getElem?_set_ne hj]
  have e2 := e.step i (s' := .own _) (x' := some (.ref l)) ok fun B hB _ => by
    obtain ⟨l2, _, rfl, q, _⟩ := hB _ h
    rw [h1] at q
    cases q
    exact ⟨fun A hA => Keeps.chg fun z => hA l z (List.mem_singleton.mpr rfl), [l], ⟨l, ys, rfl, rfl, upd_same, ⟨a3, a4, a5⟩, r.mono (Le.chg S l _)⟩, nodup1, fun a ha => .inl ha⟩
  rw [es] at e2
  exact ⟨e2, Le.chg S l _, fun g => g.change a5 a3 a4 _⟩
theorem big {n : Nat} (h : n ≤ 1000000) : n ≤ sizeLine := Nat.le_trans h (by decide)
theorem bigL {n : Nat} (h : n < 1000000) : n < sizeLine := Nat.lt_of_lt_of_le h (by decide)
/-- found.append(e) -/
theorem sc_append {i : Nat} {ds : List D} (h : Γ[i]? = some (.own ds)) (hl : ds.length < 1000000) (he : EC K E te Γ (fun d => P.nx (Γ.set i (.own (ds ++ [d])))) (P.kx Γ)) : SC K E (tDrop (tBM K "list" rAppend (tVar i) (tCons te tNil))) Γ P := fun S0 S σ D g e G => by
  obtain ⟨l, xs, h1, h2, h3, h4, h0, r⟩ := e.own i ds h
  refine ⟨_, h1, .inl ⟨rfl, xs, SqL.of h2⟩, ?_⟩
  refine he S0 S σ _ e (fun T v d g2 r2 kd => ?_) (G.kx S σ Γ g (Le.refl S) e)
  have e2 := e.gr g2
  obtain ⟨e3, l3, g3⟩ := e2.change h h1 (RpL.append (r.mono g2.le) (RpL.cons r2 RpL.nil))
  exact ⟨l, xs, v, rfl, rfl, g2.hp _ _ h2 h4, by rw [r.length]; exact bigL hl, G.nx _ σ _ (g3 (g.trans g2)) (g2.le.trans l3) e3 kd⟩
/-- found[j] = e -/
theorem sc_setItem {i : Nat} {ds : List D} {ti : TE} (h : Γ[i]? = some (.own ds))
    (he : EC K E te Γ (fun d => EC K E ti Γ (fun y => ∃ (z : Int) (j : Nat), y = .int z ∧ ixN ds.length z = some j ∧ P.nx (Γ.set i (.own (ds.set j d)))) (P.kx Γ)) (P.kx Γ)) : SC K E (tAsg te (gSub (tVar i) ti rSetL)) Γ P := fun S0 S σ D g e G => by
  obtain ⟨l, xs, h1, h2, h3, h4, h0, r⟩ := e.own i ds h
  refine he S0 S σ _ e (fun T v d g2 r2 h5 => ?_) (G.kx S σ Γ g (Le.refl S) e)
  refine ⟨_, h1, ?_⟩
  refine h5 S0 T σ _ (e.gr g2) (fun U w y g3 r3 ⟨z, j, ey, hj, kd⟩ => ?_) (G.kx T σ Γ (g.trans g2) g2.le (e.gr g2))
  subst ey
  have g4 := g2.trans g3
  obtain ⟨e3, l3, g5⟩ := (e.gr g4).change h h1 (RpL.set (r2.mono g3.le) j (r.mono g4.le))
  exact ⟨l, xs, z, j, rfl, r3.int, g4.hp _ _ h2 h4, by rw [r.length]; exact hj, G.nx _ σ _ (g5 (g.trans g4)) (g4.le.trans l3) e3 kd⟩

/-! ### targets -/
def GC (K : PySem.W.Frag) (g : TG) (d : D) (Γ : Ctx) (kc : Ctx → Prop) : Prop := ∀ (S0 S : Wd) (σ : L2.St) (v : V) (Q : L2.St → Hp → Prop), EnvOk K S0 S σ Γ → Rp K S d v → (∀ τ Δ, EnvOk K S0 S τ Δ → kc Δ → Q τ S.H) → g v σ S.H Q
def GCs (K : PySem.W.Frag) (g : TGs) (ds : List D) (Γ : Ctx) (kc : Ctx → Prop) : Prop := ∀ (S0 S : Wd) (σ : L2.St) (vs : List V) (Q : L2.St → Hp → Prop), EnvOk K S0 S σ Γ → RpL K S ds vs → (∀ τ Δ, EnvOk K S0 S τ Δ → kc Δ → Q τ S.H) → g vs σ S.H Q
variable {kc : Ctx → Prop}
theorem gc_name {i : Nat} {d : D} (h : kc (Γ.set i (.dat d))) : GC K (gName i) d Γ kc := fun S0 S σ v Q e r q => q _ _ (e.setDat r) h
theorem gcs_nil (h : kc Γ) : GCs K gNil [] Γ kc := fun S0 S σ vs Q e r q => ⟨r.nil_inv, q σ Γ e h⟩
theorem gcs_cons {g : TG} {gs : TGs} {d : D} {ds : List D} (h : GC K g d Γ (fun Δ => GCs K gs ds Δ kc)) : GCs K (gCons g gs) (d :: ds) Γ kc := fun S0 S σ vs Q e r q => by
  obtain ⟨y, ys, rfl, r1, r2⟩ := r.cons_inv
  exact ⟨y, ys, rfl, h S0 S σ y _ e r1 fun τ Δ e2 h2 => h2 S0 S τ ys Q e2 r2 q⟩
theorem gc_tup {n : Nat} {gs : TGs} {ds : List D} (hn : ds.length = n) (h : GCs K gs ds Γ kc) : GC K (gTup K n gs) (.tup ds) Γ kc := fun S0 S σ v Q e r q => by
  unfold Rp at r
  obtain ⟨a, xs, rfl, f, r⟩ := r
  exact ⟨a, xs, rfl, sqt_mono e.ok.sub f, by rw [r.length]; exact hn, h S0 S σ xs Q e r q⟩
theorem sc_asgG {g : TG} (h : EC K E te Γ (fun d => GC K g d Γ P.nx) (P.kx Γ)) : SC K E (tAsg te g) Γ P := fun S0 S σ D gg e G =>
  h S0 S σ _ e (fun T v d g2 r h2 => h2 S0 T σ v _ (e.gr g2) r fun τ Δ e2 hk => G.nx T τ Δ (gg.trans g2) g2.le e2 hk) (G.kx S σ Γ gg (Le.refl S) e)
theorem sc_par {i j : Nat} {t : TA} (h : EA K E t Γ (fun ds => ∃ a b, ds = [a, b] ∧ P.nx ((Γ.set i (.dat a)).set j (.dat b))) (P.kx Γ)) : SC K E (tPar i j t) Γ P := fun S0 S σ D g e G =>
  h S0 S σ _ e (fun T vs ds g2 r ⟨a, b, ed, kd⟩ => by
    subst ed
    obtain ⟨y, ys, rfl, r1, r2⟩ := r.cons_inv
    obtain ⟨z, zs, rfl, r3, r4⟩ := r2.cons_inv
    cases r4.nil_inv
    exact ⟨y, z, rfl, G.nx T _ _ (g.trans g2) g2.le (((e.gr g2).setDat r1).setDat r3) kd⟩) (G.kx S σ Γ g (Le.refl S) e)
/-- x op= e -/
theorem sc_aug {i : Nat} {f : Int → Int → Int} {z : Int} (hd : Γ[i]? = some (.dat (.int z))) (h : EC K E te Γ (fun y => ∃ w, y = .int w ∧ P.nx (Γ.set i (.dat (.int (f z w))))) (P.kx Γ)) : SC K E (tAug i te (ipI f)) Γ P := fun S0 S σ D g e G => by
  obtain ⟨v, h1, r⟩ := e.dat i _ hd
  refine ⟨v, h1, h S0 S σ _ e (fun T w y g2 r2 ⟨n, ey, kd⟩ => ?_) (G.kx S σ Γ g (Le.refl S) e)⟩
  subst ey
  exact ⟨z, n, r.int, r2.int, G.nx T _ _ (g.trans g2) g2.le ((e.gr g2).setDat (by unfold Rp; rfl)) kd⟩

/-! ### calls of defs -/
abbrev WP := List D → (D → Prop) → (Addr → D → Prop) → Prop
abbrev WPN := List D → (List D → Prop) → (Addr → D → Prop) → Prop
/-- with trees -/
abbrev WPW := List O → (O → Prop) → (Addr → D → Prop) → Prop
def spD (K : PySem.W.Frag) (wp : WP) : Sp := fun vs H Q E => ∃ (S : Wd) (ds : List D) (k : D → Prop) (kx : Addr → D → Prop), S.Ok ∧ S.H = H ∧ RpL K S ds vs ∧ wp ds k kx ∧ (∀ (T : Wd) v d, Gr S T → Rp K T d v → k d → Q v T.H) ∧ XP K E S kx
def spN (K : PySem.W.Frag) (wp : WPN) : Sp := fun vs H Q E => ∃ (S : Wd) (ds : List D) (k : List D → Prop) (kx : Addr → D → Prop), S.Ok ∧ S.H = H ∧ RpL K S ds vs ∧ wp ds k kx ∧
  (∀ (T : Wd) p xs ds, Gr S T → S.H p = none → T.H p = some (.lst xs) → T.F p = none → T.M p = none → RpL K T ds xs → k ds → Q (.ref p) T.H) ∧ XP K E S kx
def spW (K : PySem.W.Frag) (wp : WPW) : Sp := fun vs H Q E => ∃ (S0 S : Wd) (os : List O) (A : List Addr) (k : O → Prop) (kx : Addr → D → Prop), Gr S0 S ∧ S.H = H ∧ OwL K S0 S os vs A ∧ A.Nodup ∧ wp os k kx ∧
  (∀ (T : Wd) v o B, Gr S0 T → Ow K S0 T o v B → B.Nodup → k o → Q v T.H) ∧ XP K E S0 kx
/-- no wish -/
abbrev ES0 : L2.St → XK := fun _ => E0
abbrev F0 : Addr → D → Prop := fun _ _ => False
theorem xp0 {K : PySem.W.Frag} {E : XK} {S : Wd} : XP K E S F0 := fun _ _ _ _ _ _ h => h.elim
theorem ec_call {wp : WP} {t : TA} (h : EA K E t Γ (fun ds => wp ds k kx) kx) : EC K E (tCallSD (spD K wp) [] E t) Γ k kx := fun S0 S σ Q e q x =>
  h S0 S σ _ e (fun T vs ds g r w => by
    rw [List.append_nil]
    exact ⟨T, ds, k, kx, g.ok, rfl, r, w, fun U v d g2 r2 kd => q U v d (g.trans g2) r2 kd, x.gr g⟩) x
/-- what can't raise here -/
theorem ec_call0 {wp : WP} {t : TA} (h : EA K E t Γ (fun ds => wp ds k F0) kx) : EC K E (tCallSD (spD K wp) [] ES0 t) Γ k kx := fun S0 S σ Q e q x =>
  h S0 S σ _ e (fun T vs ds g r w => by
    rw [List.append_nil]
    exact ⟨T, ds, k, F0, g.ok, rfl, r, w, fun U v d g2 r2 kd => q U v d (g.trans g2) r2 kd, xp0⟩) x
theorem en_call {wp : WPN} {t : TA} (h : EA K E t Γ (fun ds => wp ds kl kx) kx) : EN K E (tCallSD (spN K wp) [] E t) Γ kl kx := fun S0 S σ Q e q x =>
  h S0 S σ _ e (fun T vs ds g r w => by
    rw [List.append_nil]
    exact ⟨T, ds, kl, kx, g.ok, rfl, r, w, fun U p xs es g2 a b c d r2 kd => q U p xs es (g.trans g2) (g.new a) b c d r2 kd, x.gr g⟩) x
theorem en_call0 {wp : WPN} {t : TA} (h : EA K E t Γ (fun ds => wp ds kl F0) kx) : EN K E (tCallSD (spN K wp) [] ES0 t) Γ kl kx := fun S0 S σ Q e q x =>
  h S0 S σ _ e (fun T vs ds g r w => by
    rw [List.append_nil]
    exact ⟨T, ds, kl, F0, g.ok, rfl, r, w, fun U p xs es g2 a b c d r2 kd => q U p xs es (g.trans g2) (g.new a) b c d r2 kd, xp0⟩) x
variable {ko : O → Prop}
theorem ew_call {wp : WPW} {t : TA} (h : EAW K E t Γ (fun os => wp os ko kx) kx) : EW K E (tCallSD (spW K wp) [] E t) Γ ko kx := fun S0 S σ Q e q x =>
  h S0 S σ _ e (fun T vs os A g r n w => by
    rw [List.append_nil]
    exact ⟨S, T, os, A, ko, kx, g, rfl, r, n, w, fun U v o B g2 r2 n2 kd => q U v o B g2 r2 n2 kd, x⟩) x
theorem ew_call0 {wp : WPW} {t : TA} (h : EAW K E t Γ (fun os => wp os ko F0) kx) : EW K E (tCallSD (spW K wp) [] ES0 t) Γ ko kx := fun S0 S σ Q e q x =>
  h S0 S σ _ e (fun T vs os A g r n w => by
    rw [List.append_nil]
    exact ⟨S, T, os, A, ko, F0, g, rfl, r, n, w, fun U v o B g2 r2 n2 kd => q U v o B g2 r2 n2 kd, xp0⟩) x
/-! arguments, some of them new -/
theorem eaw_nil {kl : List O → Prop} (h : kl []) : EAW K E tNil Γ kl kx := fun S0 S σ Q e q x => q S [] [] [] (Gr.refl e.ok) OwL.nil List.nodup_nil h
theorem eaw_cons {t : TA} {kl : List O → Prop} (h : EW K E te Γ (fun d => EAW K E t Γ (fun ds => kl (d :: ds)) kx) kx) : EAW K E (tCons te t) Γ kl kx := fun S0 S σ Q e q x =>
  h S0 S σ _ e (fun T v o A g r n h2 => h2 S0 T σ _ (e.gr g) (fun U vs os B g2 r2 n2 kd => q U _ _ (A ++ B) (g.trans g2) (OwL.cons (r.keeps (Keeps.gr g2)) (r2.base fun a ha => g.new ha)) (List.nodup_append.mpr ⟨n, n2, fun a ha b hb z => by
    subst z
    obtain ⟨_, u, e1⟩ := r.there a ha
    rw [(r2.there a hb).1.n] at e1
    cases e1⟩) kd) (x.gr g)) x
theorem eaw_d {t : TA} {kl : List O → Prop} (h : EC K E te Γ (fun d => EAW K E t Γ (fun ds => kl (.fz d :: ds)) kx) kx) : EAW K E (tCons te t) Γ kl kx := eaw_cons (ew_dat (fun d => EAW K E t Γ (fun ds => kl (d :: ds)) kx) h)
theorem eaw_n {t : TA} {kl : List O → Prop} (h : EN K E te Γ (fun d => EAW K E t Γ (fun ds => kl (.lst (d.map .fz) :: ds)) kx) kx) : EAW K E (tCons te t) Γ kl kx := eaw_cons (ew_new (fun d => EAW K E t Γ (fun ds => kl (d :: ds)) kx) h)
/-- a tree in a slot -/
theorem EnvOk.bindW {σ : L2.St} {o : O} {v : V} {A : List Addr} (e : EnvOk K S0 S σ Γ) (g0 : Gr S0 S) (g : Gr S T) (i : Nat) (r : Ow K S T o v A) (n : A.Nodup) : EnvOk K S0 T (σ.set i (some v)) (Γ.set i (.tre o)) :=
  e.bind g i (B' := A) ⟨v, rfl, r.base fun a ha => g0.new ha⟩ n fun a ha => (r.there a ha).1.n
theorem sc_asgW {i : Nat} (h : EW K E te Γ (fun o => P.nx (Γ.set i (.tre o))) (P.kx Γ)) : SC K E (tAsg te (gName i)) Γ P := fun S0 S σ D g e G =>
  h S0 S σ _ e (fun T v o A g2 r n kd => G.nx T _ _ (g.trans g2) g2.le (e.bindW g g2 i r n) kd) (G.kx S σ Γ g (Le.refl S) e)
theorem sc_retW (h : EW K E te Γ P.rw (P.kx Γ)) : SC K E (tRet te) Γ P := fun S0 S σ D g e G =>
  h S0 S σ _ e (fun T v o A g2 r n kd => G.rw T v o A (g.trans g2) (r.base fun a ha => g.new ha) n kd) (G.kx S σ Γ g (Le.refl S) e)
theorem sc_retT {i : Nat} {o : O} (h : Γ[i]? = some (.tre o)) (hk : P.rw o) : SC K E (tRet (tVar i)) Γ P := fun S0 S σ D g e G => by
  obtain ⟨v, A, h1, r, n⟩ := e.tre i o h
  exact ⟨_, h1, G.rw S v o A g r n hk⟩
/-- the context at a def's entry -/
def start (n : Nat) (ds : List D) : Ctx := ds.map .dat ++ List.replicate (n - ds.length) .un
theorem start_get {n : Nat} {ds : List D} {i : Nat} {s : Sl} (h : (start n ds)[i]? = some s) : s = .un ∨ ∃ d, s = .dat d ∧ ds[i]? = some d := by
  unfold start at h
  by_cases hi : i < ds.length
  · rw [List.getElem?_append_left (by simpa using hi), List.getElem?_map] at h
    cases q : ds[i]? with
    | none => rw [q] at h; cases h
    | some x =>
      rw [q] at h
      cases h
      exact .inr ⟨x, rfl, rfl⟩
  · rw [List.getElem?_append_right (by simpa using hi), List.getElem?_replicate] at h
    split at h
    · cases h
      exact .inl rfl
    · cases h
theorem env_start {N : List Str} {ds : List D} {vs : List V} (ok : S.Ok) (r : RpL K S ds vs) : EnvOk K S0 S (L2.start N vs) (start N.length ds) := by
  have hl := r.length
  refine ⟨ok, ?_, fun _ => [], fun i s h => ?_, fun _ _ _ _ h _ => absurd h List.not_mem_nil, fun _ => List.nodup_nil, fun _ _ => rfl⟩
  · unfold L2.start start
    simp [hl]
  · rcases start_get h with rfl | ⟨d, rfl, q⟩
    · exact rfl
    · obtain ⟨v, e, rv⟩ := r.get q
      refine ⟨rfl, v, ?_, rv⟩
      unfold L2.start
      have hi : i < vs.length := (List.getElem?_eq_some_iff.mp e).1
      rw [List.getElem?_append_left (by simpa using hi), List.getElem?_map, e]
      rfl
/-- with trees -/
def startW (n : Nat) (os : List O) : Ctx := os.map (fun o => match o with | .fz d => .dat d | o => .tre o) ++ List.replicate (n - os.length) .un
theorem OwL.split : ∀ {os : List O} {vs : List V} {A : List Addr}, OwL K S0 S os vs A → A.Nodup → ∃ B : Nat → List Addr, (∀ (i : Nat) o, os[i]? = some o → ∃ v, vs[i]? = some v ∧ Ow K S0 S o v (B i)) ∧ (∀ i j a, i ≠ j → a ∈ B i → a ∈ B j → False) ∧ (∀ i, (B i).Nodup) ∧ (∀ i, os[i]? = none → B i = []) ∧ ∀ i a, a ∈ B i → a ∈ A
  | [], vs, A, h, n => ⟨fun _ => [], fun i o e => by simp at e, fun _ _ _ _ h _ => absurd h List.not_mem_nil, fun _ => List.nodup_nil, fun _ _ => rfl, fun _ _ h => absurd h List.not_mem_nil⟩
  | o :: os, vs, A, h, n => by
    obtain ⟨y, ys, B, C, rfl, rfl, r, t⟩ := h.cons_inv
    obtain ⟨n1, n2, n3⟩ := List.nodup_append.mp n
    obtain ⟨B', h1, h2, h3, h4, h5⟩ := OwL.split t n2
    refine ⟨fun i => match i with | 0 => B | i + 1 => B' i, fun i o' e => ?_, fun i j a hij ha hb => ?_, fun i => ?_, fun i e => ?_, fun i a ha => ?_⟩
    · cases i with
      | zero =>
        simp at e
        subst e
        exact ⟨y, rfl, r⟩
      | succ i =>
        obtain ⟨v, e1, r1⟩ := h1 i o' (by simpa using e)
        exact ⟨v, by simpa using e1, r1⟩
    · cases i with
      | zero =>
        cases j with
        | zero => exact hij rfl
        | succ j => exact n3 a ha a (h5 j a hb) rfl
      | succ i =>
        cases j with
        | zero => exact n3 a hb a (h5 i a ha) rfl
        | succ j => exact h2 i j a (fun z => hij (by rw [z])) ha hb
    · cases i with
      | zero => exact n1
      | succ i => exact h3 i
    · cases i with
      | zero => simp at e
      | succ i => exact h4 i (by simpa using e)
    · cases i with
      | zero => exact List.mem_append_left _ ha
      | succ i => exact List.mem_append_right _ (h5 i a ha)
theorem env_startW {N : List Str} {os : List O} {vs : List V} {A : List Addr} (ok : S.Ok) (r : OwL K S0 S os vs A) (n : A.Nodup) : EnvOk K S0 S (L2.start N vs) (startW N.length os) := by
  have hl := r.length
  obtain ⟨B, h1, h2, h3, h4, h5⟩ := r.split n
  refine ⟨ok, ?_, B, fun i s h => ?_, h2, h3, fun i hn => ?_⟩
  · unfold L2.start startW
    simp [hl]
  · unfold startW at h
    by_cases hi : i < os.length
    · rw [List.getElem?_append_left (by simpa using hi), List.getElem?_map] at h
      cases q : os[i]? with
      | none => rw [q] at h; cases h
      | some x =>
        rw [q] at h
        obtain ⟨v, e1, r1⟩ := h1 i x q
        have hv : (L2.start N vs)[i]? = some (some v) := by
          unfold L2.start
          have hi : i < vs.length := (List.getElem?_eq_some_iff.mp e1).1
          rw [List.getElem?_append_left (by simpa using hi), List.getElem?_map, e1]
          rfl
        rw [hv]
        cases x with
        | fz d =>
          cases h
          unfold Ow at r1
          exact ⟨r1.1, v, rfl, r1.2⟩
        | lst os => cases h; exact ⟨v, rfl, r1⟩
        | tup os => cases h; exact ⟨v, rfl, r1⟩
        | ins b C ns os => cases h; exact ⟨v, rfl, r1⟩
        | dic b ks os => cases h; exact ⟨v, rfl, r1⟩
        | ext f => cases h; exact ⟨v, rfl, r1⟩
    · rw [List.getElem?_append_right (by simpa using hi), List.getElem?_replicate] at h
      split at h
      · cases h
        exact h4 i (List.getElem?_eq_none (by omega))
      · cases h
  · refine h4 i ?_
    unfold startW at hn
    have h6 := List.getElem?_eq_none_iff.mp hn
    rw [List.length_append, List.length_map] at h6
    exact List.getElem?_eq_none (by omega)
end
section
variable {P : Program} {w : World} {K : PySem.W.Frag} {mg : Str → Option Value} {base : Heap}
/-- a def that returns data -/
theorem okD {x qual : Str} {st : Stmt} {f : Addr} {fd : FuncData} {N ps : List Str} {k : Nat} {wp : WP} (F : Fun K x qual st f fd) (S : FnScope N ps (defScope st)) (len : ∀ ds q kx, wp ds q kx → ds.length = ps.length)
    (body : ∀ (cdv : Value) (A : Around) (outer : List Env) (s : Shared) (H : Hp) (E : XK), Room k (A.deeper (envOfC qual (defScope st) s.heap.objs.size f cdv)) →
      ∃ t, PSs (cxOf (L2.CX P w) P w K mg base N qual (defScope st) f cdv A outer s H E) (defBody st) t ∧ ∀ ds q kx, wp ds q kx → SC K (fun _ => E) t (start N.length ds) { nx := fun _ => q .non, rt := q, rn := fun es => q (.lst es), kx := fun _ => kx }) : FnOk P w K mg base (L2.CX P w) (k + 1) f fd ps (spD K wp) := by
  refine F.okX S (fun vs H Q E h => ?_) (fun cdv A outer s H vs Q E hr h => ?_)
  · obtain ⟨T, ds, q, kx, _, _, r, hw, _⟩ := h
    rw [r.length]
    exact len ds q kx hw
  · obtain ⟨T, ds, q, kx, ok, eH, r, hw, hQ, hx⟩ := h
    subst eH
    obtain ⟨t, ht, hb⟩ := body cdv A outer s T.H E hr
    refine ⟨t, ht, hb ds q kx hw T T _ _ (Gr.refl ok) (env_start ok r) ⟨fun U τ Δ g _ _ h => hQ U .non .non g (by unfold Rp; rfl) h, fun U v d g r h => hQ U v d g r h, fun U p xs es g a b c d r h => hQ ⟨upd U.F p (.lst xs), U.H, U.M⟩ _ (.lst es) (g.freeze a b d) (by
      unfold Rp
      exact ⟨p, xs, rfl, upd_same, r.mono (Le.freeze c)⟩) h, fun _ _ _ _ _ _ _ h => h.elim, fun _ _ _ _ _ _ h => h.elim, fun _ _ _ _ _ _ h => h.elim, fun U τ Δ g l e => hx.gr g⟩⟩
/-- .. a new list -/
theorem okN {x qual : Str} {st : Stmt} {f : Addr} {fd : FuncData} {N ps : List Str} {k : Nat} {wp : WPN} (F : Fun K x qual st f fd) (S : FnScope N ps (defScope st)) (len : ∀ ds q kx, wp ds q kx → ds.length = ps.length)
    (body : ∀ (cdv : Value) (A : Around) (outer : List Env) (s : Shared) (H : Hp) (E : XK), Room k (A.deeper (envOfC qual (defScope st) s.heap.objs.size f cdv)) →
      ∃ t, PSs (cxOf (L2.CX P w) P w K mg base N qual (defScope st) f cdv A outer s H E) (defBody st) t ∧ ∀ ds q kx, wp ds q kx → SC K (fun _ => E) t (start N.length ds) { rn := q, kx := fun _ => kx }) : FnOk P w K mg base (L2.CX P w) (k + 1) f fd ps (spN K wp) := by
  refine F.okX S (fun vs H Q E h => ?_) (fun cdv A outer s H vs Q E hr h => ?_)
  · obtain ⟨T, ds, q, kx, _, _, r, hw, _⟩ := h
    rw [r.length]
    exact len ds q kx hw
  · obtain ⟨T, ds, q, kx, ok, eH, r, hw, hQ, hx⟩ := h
    subst eH
    obtain ⟨t, ht, hb⟩ := body cdv A outer s T.H E hr
    refine ⟨t, ht, hb ds q kx hw T T _ _ (Gr.refl ok) (env_start ok r) ⟨fun U τ Δ g _ _ h => h.elim, fun U v d g r h => h.elim, fun U p xs es g a b c d r h => hQ U p xs es g a b c d r h, fun _ _ _ _ _ _ _ h => h.elim, fun _ _ _ _ _ _ h => h.elim, fun _ _ _ _ _ _ h => h.elim, fun U τ Δ g l e => hx.gr g⟩⟩
/-- .. a tree -/
theorem okW {x qual : Str} {st : Stmt} {f : Addr} {fd : FuncData} {N ps : List Str} {k : Nat} {wp : WPW} (F : Fun K x qual st f fd) (S : FnScope N ps (defScope st)) (len : ∀ ds q kx, wp ds q kx → ds.length = ps.length)
    (body : ∀ (cdv : Value) (A : Around) (outer : List Env) (s : Shared) (H : Hp) (E : XK), Room k (A.deeper (envOfC qual (defScope st) s.heap.objs.size f cdv)) →
      ∃ t, PSs (cxOf (L2.CX P w) P w K mg base N qual (defScope st) f cdv A outer s H E) (defBody st) t ∧ ∀ os q kx, wp os q kx → SC K (fun _ => E) t (startW N.length os) { nx := fun _ => q (.fz .non), rt := fun d => q (.fz d), rn := fun ds => q (.lst (ds.map .fz)), rw := q, kx := fun _ => kx }) : FnOk P w K mg base (L2.CX P w) (k + 1) f fd ps (spW K wp) := by
  refine F.okX S (fun vs H Q E h => ?_) (fun cdv A outer s H vs Q E hr h => ?_)
  · obtain ⟨S0, T, os, B, q, kx, _, _, r, _, hw, _⟩ := h
    rw [r.length]
    exact len os q kx hw
  · obtain ⟨S0, T, os, B, q, kx, g, eH, r, n, hw, hQ, hx⟩ := h
    subst eH
    obtain ⟨t, ht, hb⟩ := body cdv A outer s T.H E hr
    refine ⟨t, ht, hb os q kx hw S0 T _ _ g (env_startW g.ok r n) ⟨fun U τ Δ g _ _ h => hQ U .non (.fz .non) [] g (by unfold Ow Rp; exact ⟨rfl, rfl⟩) List.nodup_nil h, fun U v d g r h => hQ U v (.fz d) [] g (by unfold Ow; exact ⟨rfl, r⟩) List.nodup_nil h, fun U p xs es g a b c d r h => hQ U (.ref p) (.lst (es.map .fz)) [p] g (by
      unfold Ow
      exact ⟨p, xs, [], rfl, rfl, b, ⟨c, d, a⟩, OwL.of_fz r⟩) nodup1 h, fun U v o A g r n h => hQ U v o A g r n h, fun _ _ _ _ _ _ h => h.elim, fun _ _ _ _ _ _ h => h.elim, fun U τ Δ g l e => hx.gr g⟩⟩
end
end Z

namespace Z
open PySem PySem.Spec PyProof.Rows L2
/-! ### what is walked -/
structure Walk (K : PySem.W.Frag) (T : Wd) (J : It) (ds : List D) : Prop where
  go : ∀ (U : Wd) i, U.Ok → Le T U → i < ds.length → J.go i U.H
  yld : ∀ (U : Wd) i x H', U.Ok → Le T U → i < ds.length → J.yld i U.H x H' → ∃ (U' : Wd) (d : D), U'.H = H' ∧ Gr U U' ∧ ds[i]? = some d ∧ Rp K U' d x
  stop : ∀ (U : Wd) i, U.Ok → Le T U → ds.length ≤ i → J.stop i U.H
section
variable (K : PySem.W.Frag) (E : L2.St → XK)
def EI (wi : TI) (Γ : Ctx) (k : List D → Prop) (kx : Addr → D → Prop) : Prop := ∀ (S0 S : Wd) (σ : L2.St) (R : It → Hp → Prop), EnvOk K S0 S σ Γ → (∀ (T : Wd) J ds, Gr S T → Walk K T J ds → k ds → R J T.H) → XP K (E σ) S kx → wi σ S.H R
end
section
variable {K : PySem.W.Frag} {E : L2.St → XK} {S0 S T : Wd} {te ta tb tc tl : TE} {tt uu : TT} {t u : TS} {Γ : Ctx} {k k' : D → Prop} {kx : Addr → D → Prop} {P : Po} {kl : List D → Prop} {al : TA}
theorem EI.mono {wi : TI} {k k' : List D → Prop} (h : EI K E wi Γ k kx) (hk : ∀ d, k d → k' d) : EI K E wi Γ k' kx := fun S0 S σ Q e q x => h S0 S σ Q e (fun T J ds g w kd => q T J ds g w (hk ds kd)) x
theorem walk_list {a : Addr} {xs : List V} {ds : List D} (f : T.F a = some (.lst xs)) (r : RpL K T ds xs) : Walk K T (Itl K a) ds := by
  refine ⟨fun U i ok l hi => ?_, fun U i x H' ok l hi y => ?_, fun U i ok l hi => ?_⟩
  · have hx : i < xs.length := by rw [r.length]; exact hi
    exact ⟨xs, xs[i], SqL.of (ok.sub _ _ (l.fz _ _ f)), List.getElem?_eq_getElem hx⟩
  · obtain ⟨rfl, hy⟩ := y
    have q := hy xs (SqL.of (ok.sub _ _ (l.fz _ _ f)))
    obtain ⟨d, e, rd⟩ := r.getV q
    exact ⟨U, d, rfl, Gr.refl ok, e, rd.mono l⟩
  · exact ⟨xs, SqL.of (ok.sub _ _ (l.fz _ _ f)), by rw [r.length]; exact hi⟩
theorem ei_list (h : EC K E tl Γ (fun d => ∃ ds, d = .lst ds ∧ kl ds) kx) : EI K E (iList K tl) Γ kl kx := fun S0 S σ R e q x =>
  h S0 S σ _ e (fun T v d g r ⟨ds, ed, kd⟩ => by
    subst ed
    unfold Rp at r
    obtain ⟨a, xs, rfl, f, r⟩ := r
    exact ⟨a, rfl, ⟨xs, SqL.of (g.ok.sub _ _ f)⟩, q T _ ds g (walk_list f r) kd⟩) x
theorem walk_scr {a : Addr} {ns : List Int} (f : SqL K T.F a (ns.map V.int)) : Walk K T (Itl K a) (ns.map D.int) := by
  refine ⟨fun U i ok l hi => ?_, fun U i x H' ok l hi y => ?_, fun U i ok l hi => ?_⟩
  · have hx : i < (ns.map V.int).length := by simpa using hi
    exact ⟨_, _, sql_mono ok.sub (sql_mono l.fz f), List.getElem?_eq_getElem hx⟩
  · obtain ⟨rfl, hy⟩ := y
    have q := hy _ (sql_mono ok.sub (sql_mono l.fz f))
    rw [List.getElem?_map] at q
    cases h : ns[i]? with
    | none => rw [h] at q; cases q
    | some n =>
      rw [h] at q
      cases q
      refine ⟨U, .int n, rfl, Gr.refl ok, ?_, by unfold Rp; rfl⟩
      rw [List.getElem?_map, h]
      rfl
  · exact ⟨_, sql_mono ok.sub (sql_mono l.fz f), by simpa using hi⟩
theorem ei_tup (h : EC K E tl Γ (fun d => ∃ ds, d = .tup ds ∧ kl ds) kx) : EI K E (iTup K tl) Γ kl kx := fun S0 S σ R e q x =>
  h S0 S σ _ e (fun T v d g r ⟨ds, ed, kd⟩ => by
    subst ed
    unfold Rp at r
    obtain ⟨a, xs, rfl, f, r⟩ := r
    refine ⟨a, rfl, ⟨xs, sqt_mono g.ok.sub f⟩, q T _ ds g ⟨fun U i ok l hi => ?_, fun U i x H' ok l hi y => ?_, fun U i ok l hi => ?_⟩ kd⟩
    · have hx : i < xs.length := by rw [r.length]; exact hi
      exact ⟨xs, xs[i], sqt_mono ok.sub (sqt_mono l.fz f), List.getElem?_eq_getElem hx⟩
    · obtain ⟨rfl, hy⟩ := y
      have q := hy xs (sqt_mono ok.sub (sqt_mono l.fz f))
      obtain ⟨d, e, rd⟩ := r.getV q
      exact ⟨U, d, rfl, Gr.refl ok, e, rd.mono l⟩
    · exact ⟨xs, sqt_mono ok.sub (sqt_mono l.fz f), by rw [r.length]; exact hi⟩) x
theorem walk_range {lo : Int} {n : Nat} : Walk K T (Itr lo n) ((List.range n).map fun i : Nat => D.int (lo + i)) := by
  refine ⟨fun U i ok l hi => ?_, fun U i x H' ok l hi y => ?_, fun U i ok l hi => ?_⟩
  · have h : i < n := by simpa using hi
    exact h
  · obtain ⟨rfl, rfl⟩ := y
    have h : i < n := by simpa using hi
    refine ⟨U, .int (lo + i), rfl, Gr.refl ok, ?_, by unfold Rp; rfl⟩
    rw [List.getElem?_map, List.getElem?_range h]
    rfl
  · have h : n ≤ i := by simpa using hi
    exact h
theorem ei_range1 (h : EA K E al Γ (fun l => ∃ n : Int, l = [.int n] ∧ (-(2 ^ 62) ≤ n ∧ n < 2 ^ 62) ∧ kl ((List.range n.toNat).map fun i : Nat => D.int (0 + i))) kx) : EI K E (iRng1 al) Γ kl kx := fun S0 S σ R e q x =>
  h S0 S σ _ e (fun T vs l g r ⟨n, el, hb, kd⟩ => by
    subst el
    obtain ⟨y, ys, rfl, r1, r2⟩ := r.cons_inv
    cases r2.nil_inv
    exact ⟨n, by rw [r1.int], hb.1, hb.2, q T _ _ g walk_range kd⟩) x
theorem ei_range2 (h : EA K E al Γ (fun l => ∃ m n : Int, l = [.int m, .int n] ∧ (-(2 ^ 62) ≤ m ∧ m < 2 ^ 62 ∧ -(2 ^ 62) ≤ n ∧ n < 2 ^ 62) ∧ kl ((List.range (n - m).toNat).map fun i : Nat => D.int (m + i))) kx) : EI K E (iRng2 al) Γ kl kx := fun S0 S σ R e q x =>
  h S0 S σ _ e (fun T vs l g r ⟨m, n, el, hb, kd⟩ => by
    subst el
    obtain ⟨y, ys, rfl, r1, r2⟩ := r.cons_inv
    obtain ⟨z, zs, rfl, r3, r4⟩ := r2.cons_inv
    cases r4.nil_inv
    exact ⟨m, n, by rw [r1.int, r3.int], hb, q T _ _ g walk_range kd⟩) x
/-- a pair that is made on the way -/
theorem pair_new {U : Wd} {p : Addr} {x y : V} {d e : D} (ok : U.Ok) (hn : U.H p = none) (r1 : Rp K U d x) (r2 : Rp K U e y) : ∃ U' : Wd, U'.H = upd U.H p (.tup [x, y]) ∧ Gr U U' ∧ Rp K U' (.tup [d, e]) (.ref p) := by
  have g := Gr.lay ok hn (.tup [x, y])
  refine ⟨_, rfl, g, ?_⟩
  unfold Rp
  exact ⟨p, [x, y], rfl, SqT.of upd_same, RpL.cons (r1.mono g.le) (RpL.cons (r2.mono g.le) RpL.nil)⟩
theorem ei_enum (h : EA K E al Γ (fun l => ∃ ds, l = [.lst ds] ∧ kl (ds.zipIdx.map fun p => D.tup [.int p.2, p.1])) kx) : EI K E (iEnum K al) Γ kl kx := fun S0 S σ R e q x =>
  h S0 S σ _ e (fun T vs l g r ⟨ds, el, kd⟩ => by
    subst el
    obtain ⟨y, ys, rfl, r1, r2⟩ := r.cons_inv
    cases r2.nil_inv
    unfold Rp at r1
    obtain ⟨a, xs, rfl, f, r⟩ := r1
    have hl := r.length
    refine ⟨a, xs, rfl, SqL.of (g.ok.sub _ _ f), q T _ _ g ⟨fun U i ok l hi => ?_, fun U i x H' ok l hi y => ?_, fun U i ok l hi => ?_⟩ kd⟩
    · have hx : i < xs.length := by
        rw [hl]
        simpa using hi
      exact ⟨xs, xs[i], SqL.of (ok.sub _ _ (l.fz _ _ f)), List.getElem?_eq_getElem hx⟩
    · obtain ⟨p, v, rfl, hn, rfl, hy⟩ := y
      have q := hy xs (SqL.of (ok.sub _ _ (l.fz _ _ f)))
      obtain ⟨d, e, rd⟩ := r.getV q
      obtain ⟨U', e1, g1, r1⟩ := pair_new (K := K) (d := .int (i : Nat)) (e := d) (x := .int (i : Nat)) ok hn (by unfold Rp; rfl) (rd.mono l)
      refine ⟨U', _, e1, g1, ?_, r1⟩
      rw [List.getElem?_map, List.getElem?_zipIdx, e]
      simp
    · exact ⟨xs, SqL.of (ok.sub _ _ (l.fz _ _ f)), by
        rw [hl]
        simpa using hi⟩) x
theorem ei_zip (h : EA K E al Γ (fun l => ∃ ds es, l = [.lst ds, .lst es] ∧ kl ((ds.zip es).map fun p => D.tup [p.1, p.2])) kx) : EI K E (iZip K al) Γ kl kx := fun S0 S σ R e q x =>
  h S0 S σ _ e (fun T vs l g r ⟨ds, es, el, kd⟩ => by
    subst el
    obtain ⟨y, ys, rfl, r1, r2⟩ := r.cons_inv
    obtain ⟨z, zs, rfl, r3, r4⟩ := r2.cons_inv
    cases r4.nil_inv
    unfold Rp at r1 r3
    obtain ⟨a, xs, rfl, f, rx⟩ := r1
    obtain ⟨b, ys, rfl, f', r'⟩ := r3
    have hl := rx.length
    have hl' := r'.length
    have hq : ∀ {U : Wd}, U.Ok → Le T U → SqL K U.H a xs := fun ok l => SqL.of (ok.sub _ _ (l.fz _ _ f))
    have hq' : ∀ {U : Wd}, U.Ok → Le T U → SqL K U.H b ys := fun ok l => SqL.of (ok.sub _ _ (l.fz _ _ f'))
    refine ⟨a, b, xs, ys, rfl, SqL.of (g.ok.sub _ _ f), SqL.of (g.ok.sub _ _ f'), q T _ _ g ⟨fun U i ok l hi => ?_, fun U i x H' ok l hi y => ?_, fun U i ok l hi => ?_⟩ kd⟩
    · have hm : i < min ds.length es.length := by simpa using hi
      have hx : i < xs.length := by omega
      have hy : i < ys.length := by omega
      exact ⟨xs, ys, xs[i], ys[i], hq ok l, hq' ok l, List.getElem?_eq_getElem hx, List.getElem?_eq_getElem hy⟩
    · obtain ⟨p, v, w, rfl, hn, rfl, h1, h2⟩ := y
      obtain ⟨d, e, rd⟩ := rx.getV (h1 xs (hq ok l))
      obtain ⟨d', e', rd'⟩ := r'.getV (h2 ys (hq' ok l))
      obtain ⟨U', e1, g1, r1⟩ := pair_new ok hn (rd.mono l) (rd'.mono l)
      refine ⟨U', _, e1, g1, ?_, r1⟩
      have hz : (ds.zip es)[i]? = some (d, d') := List.getElem?_zip_eq_some.mpr ⟨e, e'⟩
      rw [List.getElem?_map, hz]
      rfl
    · have hm : min ds.length es.length ≤ i := by simpa using hi
      exact ⟨xs, ys, hq ok l, hq' ok l, by omega⟩) x

/-! ### for, while -/
theorem sc_for {wi : TI} {g : TG} (h : EI K E wi Γ (fun ds => ∃ Iv : Nat → Ctx → Prop, Iv 0 Γ ∧ (∀ (i : Nat) d Δ, ds[i]? = some d → Iv i Δ → GC K g d Δ fun Δ' => SC K E t Δ' { P with nx := Iv (i + 1), ct := Iv (i + 1), bk := P.nx }) ∧ ∀ Δ, Iv ds.length Δ → P.nx Δ) (P.kx Γ)) :
    SC K E (tFor wi g t) Γ P := fun S0 S σ D gg e G =>
  h S0 S σ _ e (fun T J ds g2 w ⟨Iv, h0, hs, hd⟩ => by
    refine ⟨fun i m σ' H => ∃ (U : Wd) (Δ : Ctx), U.H = H ∧ Gr S0 U ∧ Le T U ∧ EnvOk K S0 U σ' Δ ∧ i ≤ ds.length ∧ m = ds.length - i ∧ Iv i Δ, ⟨_, T, Γ, rfl, gg.trans g2, Le.refl T, e.gr g2, Nat.zero_le _, rfl, h0⟩, ?_⟩
    rintro i m σ' H ⟨U, Δ, rfl, gU, lU, eU, hi, rfl, hI⟩
    by_cases hlt : i < ds.length
    · refine .inr ⟨w.go U i gU.ok lU hlt, fun σ' H => ∃ (U : Wd) (Δ : Ctx), U.H = H ∧ Gr S0 U ∧ Le T U ∧ EnvOk K S0 U σ' Δ ∧ Iv (i + 1) Δ, ?_, fun x H' y => ?_⟩
      · rintro σ2 H2 ⟨U2, Δ2, e2, a, b, c, d⟩
        exact ⟨ds.length - (i + 1), by omega, U2, Δ2, e2, a, b, c, hlt, rfl, d⟩
      · obtain ⟨U1, d, rfl, g1, ed, rd⟩ := w.yld U i x H' gU.ok lU hlt y
        refine hs i d Δ ed hI S0 U1 σ' x _ (eU.gr g1) rd fun τ Δ2 e2 h2 => ?_
        have l1 : Le T U1 := lU.trans g1.le
        exact h2 S0 U1 τ _ (gU.trans g1) e2 ⟨fun W τ' Δ' a b c m => ⟨W, Δ', rfl, a, l1.trans b, c, m⟩, G.rt, G.rn, G.rw, fun W τ' Δ' a b c m => G.nx W τ' Δ' a ((g2.le.trans l1).trans b) c m, fun W τ' Δ' a b c m => ⟨W, Δ', rfl, a, l1.trans b, c, m⟩, fun W τ' Δ' a b c => G.kx W τ' Δ' a ((g2.le.trans l1).trans b) c⟩
    · have ei : i = ds.length := by omega
      subst ei
      exact .inl ⟨w.stop U _ gU.ok lU (Nat.le_refl _), G.nx U σ' Δ gU (g2.le.trans lU) eU (hd Δ hI)⟩) (G.kx S σ Γ gg (Le.refl S) e)
theorem sc_while (Iv : Nat → Ctx → Prop) {m0 : Nat} (h0 : Iv m0 Γ) (h : ∀ m Δ, Iv m Δ → ET K E tt Δ (fun b => if b = true then SC K E t Δ { P with nx := fun Δ' => ∃ m', m' < m ∧ Iv m' Δ', ct := fun Δ' => ∃ m', m' < m ∧ Iv m' Δ', bk := P.nx } else P.nx Δ) (P.kx Δ)) :
    SC K E (tWhile tt t) Γ P := fun S0 S σ D gg e G => by
  refine ⟨fun m σ' H => ∃ (U : Wd) (Δ : Ctx), U.H = H ∧ Gr S0 U ∧ Le S U ∧ EnvOk K S0 U σ' Δ ∧ Iv m Δ, ⟨m0, S, Γ, rfl, gg, Le.refl S, e, h0⟩, ?_⟩
  rintro m σ' H ⟨U, Δ, rfl, gU, lU, eU, hI⟩
  refine h m Δ hI S0 U σ' _ eU (fun T b g2 kd => ?_) (G.kx U σ' Δ gU lU eU)
  cases b with
  | true =>
    have h2 : SC K E t Δ { P with nx := fun Δ' => ∃ m', m' < m ∧ Iv m' Δ', ct := fun Δ' => ∃ m', m' < m ∧ Iv m' Δ', bk := P.nx } := kd
    show ∃ N : L2.St → Hp → Prop, _
    refine ⟨fun σ' H => ∃ (U : Wd) (Δ : Ctx), U.H = H ∧ Gr S0 U ∧ Le S U ∧ EnvOk K S0 U σ' Δ ∧ ∃ m', m' < m ∧ Iv m' Δ, ?_, ?_⟩
    · rintro σ2 H2 ⟨U2, Δ2, e2, a, b, c, m', hm, hI'⟩
      exact ⟨m', hm, U2, Δ2, e2, a, b, c, hI'⟩
    · have l1 : Le S T := lU.trans g2.le
      exact h2 S0 T σ' _ (gU.trans g2) (eU.gr g2) ⟨fun W τ' Δ' a b c m => ⟨W, Δ', rfl, a, l1.trans b, c, m⟩, G.rt, G.rn, G.rw, fun W τ' Δ' a b c m => G.nx W τ' Δ' a (l1.trans b) c m, fun W τ' Δ' a b c m => ⟨W, Δ', rfl, a, l1.trans b, c, m⟩, fun W τ' Δ' a b c => G.kx W τ' Δ' a (l1.trans b) c⟩
  | false =>
    have h2 : P.nx Δ := kd
    show D.nx σ' T.H
    exact G.nx T σ' Δ (gU.trans g2) (lU.trans g2.le) (eU.gr g2) h2

/-! ### comprehensions -/
def wipeC (Γ : Ctx) : List Nat → Ctx
  | [] => Γ
  | v :: vs => (wipeC Γ vs).set v .un
theorem env_wipe {σ : L2.St} (e : EnvOk K S0 S σ Γ) : ∀ vs : List Nat, EnvOk K S0 S (wipe σ vs) (wipeC Γ vs)
  | [] => e
  | v :: vs => (env_wipe e vs).setUn
theorem wipe_in {σ : L2.St} {i : Nat} : ∀ {vs : List Nat}, i ∈ vs → (wipe σ vs)[i]? = if i < σ.length then some none else none
  | v :: vs, h => by
    unfold wipe
    by_cases hv : v = i
    · subst hv
      by_cases hl : v < σ.length
      · rw [List.getElem?_set_self (by rw [wipe_length]; exact hl), if_pos hl]
      · rw [if_neg hl, List.getElem?_eq_none (by rw [List.length_set, wipe_length]; omega)]
    · rw [List.getElem?_set_ne hv]
      have h' : i ∈ vs := by
        rcases List.mem_cons.mp h with z | z
        · exact absurd z.symm hv
        · exact z
      exact wipe_in h'
theorem wipe_out' {σ : L2.St} {i : Nat} : ∀ {vs : List Nat}, i ∉ vs → (wipe σ vs)[i]? = σ[i]?
  | [], _ => rfl
  | v :: vs, h => by
    unfold wipe
    have hv : v ≠ i := fun z => h (by rw [z]; exact List.mem_cons_self)
    rw [List.getElem?_set_ne hv]
    exact wipe_out' fun z => h (List.mem_cons_of_mem _ z)
theorem wipe_set {τ : L2.St} {i : Nat} {x : Option V} {vs : List Nat} (h : i ∈ vs) : wipe (τ.set i x) vs = wipe τ vs := by
  apply List.ext_getElem?
  intro j
  by_cases hj : j ∈ vs
  · rw [wipe_in hj, wipe_in hj, List.length_set]
  · rw [wipe_out' hj, wipe_out' hj, List.getElem?_set_ne fun z : i = j => hj (z ▸ h)]
theorem wipe_idem {τ : L2.St} {vs : List Nat} : wipe (wipe τ vs) vs = wipe τ vs := by
  apply List.ext_getElem?
  intro j
  by_cases hj : j ∈ vs
  · rw [wipe_in hj, wipe_in hj, wipe_length]
  · rw [wipe_out' hj]
def GW (K : PySem.W.Frag) (vs : List Nat) (g : TG) (d : D) (Γ : Ctx) (kc : Ctx → Prop) : Prop := ∀ (S0 S : Wd) (σ : L2.St) (v : V) (Q : L2.St → Hp → Prop), EnvOk K S0 S σ Γ → Rp K S d v → (∀ τ Δ, wipe τ vs = wipe σ vs → EnvOk K S0 S τ Δ → kc Δ → Q τ S.H) → g v σ S.H Q
def GWs (K : PySem.W.Frag) (vs : List Nat) (g : TGs) (ds : List D) (Γ : Ctx) (kc : Ctx → Prop) : Prop := ∀ (S0 S : Wd) (σ : L2.St) (us : List V) (Q : L2.St → Hp → Prop), EnvOk K S0 S σ Γ → RpL K S ds us → (∀ τ Δ, wipe τ vs = wipe σ vs → EnvOk K S0 S τ Δ → kc Δ → Q τ S.H) → g us σ S.H Q
variable {kc : Ctx → Prop} {vs : List Nat}
theorem gw_name {i : Nat} {d : D} (hi : i ∈ vs) (h : kc (Γ.set i (.dat d))) : GW K vs (gName i) d Γ kc := fun S0 S σ v Q e r q => q _ _ (wipe_set hi) (e.setDat r) h
theorem gws_nil (h : kc Γ) : GWs K vs gNil [] Γ kc := fun S0 S σ us Q e r q => ⟨r.nil_inv, q σ Γ rfl e h⟩
theorem gws_cons {g : TG} {gs : TGs} {d : D} {ds : List D} (h : GW K vs g d Γ (fun Δ => GWs K vs gs ds Δ kc)) : GWs K vs (gCons g gs) (d :: ds) Γ kc := fun S0 S σ us Q e r q => by
  obtain ⟨y, ys, rfl, r1, r2⟩ := r.cons_inv
  exact ⟨y, ys, rfl, h S0 S σ y _ e r1 fun τ Δ w e2 h2 => h2 S0 S τ ys Q e2 r2 fun τ' Δ' w' => q τ' Δ' (w'.trans w)⟩
theorem gw_tup {n : Nat} {gs : TGs} {ds : List D} (hn : ds.length = n) (h : GWs K vs gs ds Γ kc) : GW K vs (gTup K n gs) (.tup ds) Γ kc := fun S0 S σ v Q e r q => by
  unfold Rp at r
  obtain ⟨a, xs, rfl, f, r⟩ := r
  exact ⟨a, xs, rfl, sqt_mono e.ok.sub f, by rw [r.length]; exact hn, h S0 S σ xs Q e r q⟩
/-- a comprehension by what holds of the list so far -/
theorem en_lcI {wi : TI} {g : TG} (h : EI K E wi Γ (fun ds => ds.length ≤ 1000000 ∧ ∃ Iv : Nat → List D → Prop, Iv 0 [] ∧ (∀ (i : Nat) d acc, ds[i]? = some d → Iv i acc → acc.length ≤ i → GW K vs g d (wipeC Γ vs) fun Δ =>
      ET K ES0 tt Δ (fun b => if b = true then EC K ES0 te Δ (fun y => Iv (i + 1) (acc ++ [y])) F0 else Iv (i + 1) acc) F0) ∧ ∀ acc, Iv ds.length acc → kl acc) kx) : EN K E (tLc wi g tt te vs) Γ kl kx := fun S0 S σ Q e q x =>
  h S0 S σ _ e (fun T J ds g2 w ⟨hz, Iv, h0, hs, hd⟩ Dp hn => by
    have eT := env_wipe (e.gr g2) vs
    have fresh := Gr.layO g2.ok hn (.lst [])
    refine ⟨fun i m H => ∃ (U : Wd) (acc : List D) (xs : List V), U.H = H ∧ Gr T U ∧ U.H Dp = some (.lst xs) ∧ U.F Dp = none ∧ U.M Dp = none ∧ RpL K U acc xs ∧ i ≤ ds.length ∧ m = ds.length - i ∧ acc.length ≤ i ∧ Iv i acc,
      ⟨_, ⟨T.F, upd T.H Dp (.lst []), T.M⟩, [], [], rfl, fresh, upd_same, g2.ok.fnone hn, g2.ok.mnone hn, RpL.nil, Nat.zero_le _, rfl, Nat.le_refl _, h0⟩, ?_⟩
    rintro i m H ⟨U, acc, xs, rfl, gU, hD, hF, hM, rA, hi, rfl, ha, hI⟩
    by_cases hlt : i < ds.length
    · refine .inr ⟨w.go U i gU.ok gU.le hlt, fun H => ∃ (U : Wd) (acc : List D) (xs : List V), U.H = H ∧ Gr T U ∧ U.H Dp = some (.lst xs) ∧ U.F Dp = none ∧ U.M Dp = none ∧ RpL K U acc xs ∧ acc.length ≤ i + 1 ∧ Iv (i + 1) acc, ?_, fun y H' hy => ?_⟩
      · rintro H2 ⟨U2, acc2, xs2, e2, a, b, c, d, f, l, n⟩
        exact ⟨ds.length - (i + 1), by omega, U2, acc2, xs2, e2, a, b, c, d, f, hlt, rfl, l, n⟩
      · obtain ⟨U1, d, rfl, g1, ed, rd⟩ := w.yld U i y H' gU.ok gU.le hlt hy
        have gT1 := gU.trans g1
        refine hs i d acc ed hI ha S0 U1 (wipe σ vs) y _ (eT.gr gT1) rd fun τ Δ hw e2 h2 => ⟨hw.trans wipe_idem, ?_⟩
        refine h2 S0 U1 τ _ e2 (fun U3 b g3 kd => ?_) xp0
        have g13 := g1.trans g3
        have gT3 := gU.trans g13
        cases b with
        | true =>
          have h5 : EC K ES0 te Δ (fun y => Iv (i + 1) (acc ++ [y])) F0 := kd
          show te τ U3.H _
          refine h5 S0 U3 τ _ (e2.gr g3) (fun U4 y4 d4 g4 r4 k4 => ?_) xp0
          have g14 := g13.trans g4
          have gT4 := gT3.trans g4
          have r5 : RpL K U4 (acc ++ [d4]) (xs ++ [y4]) := RpL.append (rA.mono g14.le) (RpL.cons r4 RpL.nil)
          have hF4 := g14.fr _ _ hD hF
          have hM4 : U4.M Dp = none := by rw [g14.mu _ _ hD, hM]
          refine ⟨xs, g14.hp _ _ hD hM, by rw [rA.length]; exact bigL (by omega), ⟨U4.F, upd U4.H Dp (.lst (xs ++ [y4])), U4.M⟩, acc ++ [d4], xs ++ [y4], rfl, gT4.change hn hF4 hM4 _, upd_same, hF4, hM4, r5.mono (Le.chg U4 Dp _), ?_, k4⟩
          rw [List.length_append]
          exact Nat.add_le_add_right ha 1
        | false =>
          have h5 : Iv (i + 1) acc := kd
          refine ⟨U3, acc, xs, rfl, gT3, g13.hp _ _ hD hM, g13.fr _ _ hD hF, by rw [g13.mu _ _ hD, hM], rA.mono g13.le, by omega, h5⟩
    · have ei : i = ds.length := by omega
      subst ei
      exact .inl ⟨w.stop U _ gU.ok gU.le (Nat.le_refl _), q U Dp xs acc (g2.trans gU) (g2.new hn) hD hF hM rA (hd acc hI)⟩) x
theorem take_succ {α : Type} {xs : List α} {i : Nat} {x : α} (h : xs[i]? = some x) : xs.take (i + 1) = xs.take i ++ [x] := by rw [List.take_add_one, h]; rfl
/-- .. whose test and element are functions of the item -/
theorem en_lc {wi : TI} {g : TG} (h : EI K E wi Γ (fun ds => ds.length ≤ 1000000 ∧ ∃ (α : Type) (xs : List α) (enc : α → D) (p : α → Bool) (f : α → D), ds = xs.map enc ∧ (∀ x ∈ xs, GW K vs g (enc x) (wipeC Γ vs) fun Δ =>
      ET K ES0 tt Δ (fun b => b = p x ∧ (b = true → EC K ES0 te Δ (fun y => y = f x) F0)) F0) ∧ kl ((xs.filter p).map f)) kx) : EN K E (tLc wi g tt te vs) Γ kl kx := by
  refine en_lcI (EI.mono h ?_)
  rintro ds ⟨hz, α, xs, enc, p, f, rfl, hs, hk⟩
  refine ⟨hz, fun i acc => acc = ((xs.take i).filter p).map f, rfl, ?_, fun acc ea => ?_⟩
  · rintro i d acc ed rfl ha
    rw [List.getElem?_map] at ed
    cases hx : xs[i]? with
    | none => rw [hx] at ed; cases ed
    | some x =>
      rw [hx] at ed
      cases ed
      intro S0 S σ v Q e r q
      refine hs x (List.mem_of_getElem? hx) S0 S σ v Q e r fun τ Δ hw e2 h2 => q τ Δ hw e2 (h2.mono ?_)
      rintro b ⟨rfl, h3⟩
      cases hp : p x with
      | true =>
        show EC K ES0 te Δ _ F0
        refine (h3 hp).mono ?_
        rintro y rfl
        rw [take_succ hx, List.filter_append, List.map_append]
        simp [hp]
      | false =>
        show ((xs.take i).filter p).map f = ((xs.take (i + 1)).filter p).map f
        rw [take_succ hx, List.filter_append, List.map_append]
        simp [hp]
  · subst ea
    rw [List.length_map, List.take_length]
    exact hk
theorem et_yes {kb : Bool → Prop} (h : kb true) : ET K E tYes Γ kb kx := fun S0 S σ Q e q x => q S true (Gr.refl e.ok) h
theorem filter_yes {α : Type} (xs : List α) : xs.filter (fun _ => true) = xs := by simp
/-- [e for x in xs] -/
theorem en_map {wi : TI} {g : TG} (h : EI K E wi Γ (fun ds => ds.length ≤ 1000000 ∧ ∃ (α : Type) (xs : List α) (enc : α → D) (f : α → D), ds = xs.map enc ∧ (∀ x ∈ xs, GW K vs g (enc x) (wipeC Γ vs) fun Δ => EC K ES0 te Δ (fun y => y = f x) F0) ∧ kl (xs.map f)) kx) : EN K E (tLc wi g tYes te vs) Γ kl kx := by
  refine en_lc (EI.mono h ?_)
  rintro ds ⟨hz, α, xs, enc, f, e, hs, hk⟩
  refine ⟨hz, α, xs, enc, fun _ => true, f, e, fun x hx S0 S σ v Q e r q => hs x hx S0 S σ v Q e r fun τ Δ hw e2 h2 => q τ Δ hw e2 (et_yes ⟨rfl, fun _ => h2⟩), ?_⟩
  rw [filter_yes]
  exact hk
end
end Z

namespace Z
open PySem PySem.Spec PyProof.Rows L2
/-! ### built-ins by name -/
def zLen (K : PySem.W.Frag) : List V → Hp → VK → Prop := fun xs H Q => ∃ x n, xs = [x] ∧ LenV K x H n ∧ Q (.int (n : Nat)) H
def zAbs : List V → Hp → VK → Prop := fun xs H Q => ∃ i : Int, xs = [.int i] ∧ Q (.int (if i < 0 then -i else i)) H
def zMax2 : List V → Hp → VK → Prop := fun xs H Q => ∃ i j : Int, xs = [.int i, .int j] ∧ Q (.int (if j > i then j else i)) H
def zMin2 : List V → Hp → VK → Prop := fun xs H Q => ∃ i j : Int, xs = [.int i, .int j] ∧ Q (.int (if j < i then j else i)) H
def zList (K : PySem.W.Frag) : List V → Hp → VK → Prop := fun xs H Q => ∃ p ys, xs = [.ref p] ∧ (SqL K H p ys ∨ SqT K H p ys) ∧ ∀ l, H l = none → Q (.ref l) (upd H l (.lst ys))
def zAnyI (K : PySem.W.Frag) : List V → Hp → VK → Prop := fun vs H Q => ∃ (a : Addr) (ns : List Int), vs = [V.ref a] ∧ SqL K H a (ns.map V.int) ∧ Q (.bl (ns.any fun n => n != 0)) H
def zInt : List V → Hp → VK → Prop := fun xs H Q => (∃ i, xs = [.int i] ∧ Q (.int i) H) ∨ ∃ b : Bool, xs = [.bl b] ∧ Q (.int (if b then 1 else 0)) H
section
variable {X : Cx}
theorem cz_len : CallR X (.builtin "len") (zLen X.K) := call_len
theorem cz_abs : CallR X (.builtin "abs") zAbs := call_abs
theorem cz_max2 (hc : X.calm = true) : CallR X (.builtin "max") zMax2 := call_max2 hc
theorem cz_min2 (hc : X.calm = true) : CallR X (.builtin "min") zMin2 := call_min2 hc
theorem cz_list : CallR X (.type "list") (zList X.K) := call_list_of
theorem cz_int : CallR X (.type "int") zInt := call_int1
theorem truth_ints {prog : Program} {w : World} {A : Around} {ns : List Int} {its : List Value} (e : IntsAre its ns) :
    TruthOf prog w A (fun i v => its.toArray[i]? = some v) (fun i => (ns.map fun n => n != 0).getD i false) := fun i v s Q E hv hq => by
  have hv' : its[i]? = some v := by simpa using hv
  have key : ∀ {its : List Value} {ns : List Int}, IntsAre its ns → ∀ {i : Nat} {v : Value}, its[i]? = some v → ∃ n t, v = .int n t ∧ ns[i]? = some n := by
    intro its ns h
    induction h with
    | nil => intro i v h; simp at h
    | cons n t r ih =>
      intro i v h
      cases i with
      | zero => simp at h; exact ⟨n, t, h.symm, rfl⟩
      | succ i =>
        obtain ⟨m, u, e1, e2⟩ := ih (i := i) (v := v) (by simpa using h)
        exact ⟨m, u, e1, by simpa using e2⟩
  obtain ⟨n, t, rfl, hn⟩ := key e hv'
  have hg : (ns.map fun n => n != 0).getD i false = (n != 0) := by rw [List.getD_eq_getElem?_getD, List.getElem?_map, hn] <;> rfl
  have hq' : Q ((ns.map fun n => n != 0).getD i false) s := hq
  rw [hg] at hq'
  exact PySem.P.truthy_int hq'
theorem cz_anyI (hc : X.calm = true) : CallR X (.builtin "any") (zAnyI X.K) := by
  intro pins s σ H vs us Q I r h
  obtain ⟨a, ns, rfl, hs, q⟩ := h
  obtain ⟨its, rv, hl, _⟩ := I.list hs
  rw [Vals.ref1 r]
  have hb := rv.ints
  refine call_any_walk (iter_any hl.isList fun s₂ e2 st hne => ?_)
  subst e2
  refine ⟨_, _, _, _, _, _, _, rfl, Walks.list (A := X.A.in1) (I.ok.hd hc) _ a hne its.toArray, st, truth_ints hb, fun h' tk hk => ?_⟩
  refine ⟨.bl _, H, I.kept fun b o eo => hk b o (fun hmem => ?_) (Heap.get?_push_of_some _ eo), ?_, q⟩
  · rcases List.mem_cons.mp hmem with e1 | hmem
    · exact absurd (e1 ▸ Heap.lt_size eo) (Nat.lt_irrefl _)
    · cases hmem
  · show Value.bool _ = Value.bool _
    have el : its.length = ns.length := by
      have := rv.length
      simpa using this.symm
    have hr := any_range (ns.map fun n => n != 0)
    rw [List.length_map] at hr
    rw [List.size_toArray, el, hr, List.any_map]
    rfl
end
section
variable {K : PySem.W.Frag} {E : L2.St → XK} {S0 S T : Wd} {te ta tb tc tl : TE} {tt uu : TT} {t u : TS} {Γ : Ctx} {k k' : D → Prop} {kx : Addr → D → Prop} {P : Po} {kl : List D → Prop} {al : TA}
/-- a built-in of one list -/
theorem ec_cb1 {r : List V → Hp → VK → Prop} (h : EL K E ta Γ (fun ds => ∀ (S : Wd) (Q : VK) p xs, S.Ok → S.H p = some (.lst xs) → RpL K S ds xs → (∀ (T : Wd) u d, Gr S T → Rp K T d u → k d → Q u T.H) → r [.ref p] S.H Q) kx) : EC K E (tCB r (tCons ta tNil)) Γ k kx := fun S0 S σ Q e q x =>
  h S0 S σ _ e (fun T p xs ds g hp hm r h2 => h2 T Q p xs g.ok hp r fun U u d g2 r2 kd => q U u d (g.trans g2) r2 kd) x
theorem en_cb1 {r : List V → Hp → VK → Prop} (h : EL K E ta Γ (fun ds => ∀ (S : Wd) (Q : VK) p xs, S.Ok → S.H p = some (.lst xs) → RpL K S ds xs → (∀ p ys es, S.H p = none → RpL K S es ys → kl es → Q (.ref p) (upd S.H p (.lst ys))) → r [.ref p] S.H Q) kx) : EN K E (tCB r (tCons ta tNil)) Γ kl kx := fun S0 S σ Q e q x =>
  h S0 S σ _ e (fun T p xs ds g hp hm r h2 => h2 T Q p xs g.ok hp r fun l ys es hn r2 kd => by
    have g2 := Gr.layO g.ok hn (.lst ys)
    exact q ⟨T.F, upd T.H l (.lst ys), T.M⟩ l ys es (g.trans g2) (g.new hn) upd_same (g.ok.fnone hn) (g.ok.mnone hn) (r2.mono g2.le) kd) x
/-- .. of data -/
theorem ec_cb {r : List V → Hp → VK → Prop} (h : EA K E al Γ (fun ds => ∀ (S : Wd) (Q : VK) vs, S.Ok → RpL K S ds vs → (∀ (T : Wd) u d, Gr S T → Rp K T d u → k d → Q u T.H) → r vs S.H Q) kx) : EC K E (tCB r al) Γ k kx := fun S0 S σ Q e q x =>
  h S0 S σ _ e (fun T vs ds g r h2 => h2 T Q vs g.ok r fun U u d g2 r2 kd => q U u d (g.trans g2) r2 kd) x
theorem rpi {S : Wd} {i : Int} : Rp K S (.int i) (.int i) := by unfold Rp; rfl
theorem rpb {S : Wd} {i : Bool} : Rp K S (.bl i) (.bl i) := by unfold Rp; rfl
theorem ec_len (h : EL K E ta Γ (fun ds => k (.int (ds.length : Nat))) kx) : EC K E (tCB (zLen K) (tCons ta tNil)) Γ k kx :=
  ec_cb1 (h.mono fun ds hk S Q p xs ok hp r q => ⟨.ref p, xs.length, rfl, .inl ⟨xs, SqL.of hp, rfl⟩, by rw [r.length]; exact q S _ _ (Gr.refl ok) rpi hk⟩)
theorem ec_lenD (h : EC K E ta Γ (fun d => match d with | .tup ds => k (.int (ds.length : Nat)) | .scr ns => k (.int (ns.length : Nat)) | .str z => z.length ≤ 1000000 ∧ k (.int (z.length : Nat)) | _ => False) kx) : EC K E (tCB (zLen K) (tCons ta tNil)) Γ k kx := by
  refine ec_cb (ea_cons (h.mono fun d hk => ea_nil ?_))
  intro S Q vs ok r q
  obtain ⟨y, ys, rfl, r1, r2⟩ := r.cons_inv
  cases r2.nil_inv
  cases d with
  | tup ds =>
    unfold Rp at r1
    obtain ⟨a, xs, rfl, f, r⟩ := r1
    exact ⟨.ref a, xs.length, rfl, .inr ⟨xs, sqt_mono ok.sub f, rfl⟩, by rw [r.length]; exact q S _ _ (Gr.refl ok) rpi hk⟩
  | scr ns =>
    unfold Rp at r1
    obtain ⟨a, rfl, f⟩ := r1
    exact ⟨.ref a, ns.length, rfl, .inl ⟨_, sql_mono ok.sub f, by simp⟩, q S _ _ (Gr.refl ok) rpi hk⟩
  | str z =>
    unfold Rp at r1
    subst r1
    exact ⟨.str z, z.length, rfl, ⟨big hk.1, rfl⟩, q S _ _ (Gr.refl ok) rpi hk.2⟩
  | _ => exact hk.elim
theorem ec_sum (h : EL K E ta Γ (fun ds => ∃ ns : List Int, ds = ns.map D.int ∧ k (.int ns.sum)) kx) : EC K E (tCB (rSum K) (tCons ta tNil)) Γ k kx :=
  ec_cb1 (h.mono fun ds ⟨ns, e, hk⟩ S Q p xs ok hp r q => by
    subst e
    rw [r.ints] at hp
    exact ⟨p, ns, rfl, SqL.of hp, q S _ _ (Gr.refl ok) rpi hk⟩)
theorem ec_max (h : EL K E ta Γ (fun ds => ∃ ns : List Int, ds = ns.map D.int ∧ 0 < ns.length ∧ ∀ m, m ∈ ns → (∀ y, y ∈ ns → y ≤ m) → k (.int m)) kx) : EC K E (tCB (rMax K) (tCons ta tNil)) Γ k kx :=
  ec_cb1 (h.mono fun ds ⟨ns, e, hl, hk⟩ S Q p xs ok hp r q => by
    subst e
    rw [r.ints] at hp
    exact ⟨p, ns, rfl, SqL.of hp, hl, fun m h1 h2 => q S _ _ (Gr.refl ok) rpi (hk m h1 h2)⟩)
theorem ec_min (h : EL K E ta Γ (fun ds => ∃ ns : List Int, ds = ns.map D.int ∧ 0 < ns.length ∧ ∀ m, m ∈ ns → (∀ y, y ∈ ns → m ≤ y) → k (.int m)) kx) : EC K E (tCB (rMin K) (tCons ta tNil)) Γ k kx :=
  ec_cb1 (h.mono fun ds ⟨ns, e, hl, hk⟩ S Q p xs ok hp r q => by
    subst e
    rw [r.ints] at hp
    exact ⟨p, ns, rfl, SqL.of hp, hl, fun m h1 h2 => q S _ _ (Gr.refl ok) rpi (hk m h1 h2)⟩)
theorem ec_any (h : EL K E ta Γ (fun ds => ∃ bs : List Bool, ds = bs.map D.bl ∧ k (.bl (bs.any id))) kx) : EC K E (tCB (rAny K) (tCons ta tNil)) Γ k kx :=
  ec_cb1 (h.mono fun ds ⟨ns, e, hk⟩ S Q p xs ok hp r q => by
    subst e
    rw [r.bls] at hp
    exact ⟨p, ns, rfl, SqL.of hp, q S _ _ (Gr.refl ok) rpb hk⟩)
theorem ec_all (h : EL K E ta Γ (fun ds => ∃ bs : List Bool, ds = bs.map D.bl ∧ k (.bl (bs.all id))) kx) : EC K E (tCB (rAll K) (tCons ta tNil)) Γ k kx :=
  ec_cb1 (h.mono fun ds ⟨ns, e, hk⟩ S Q p xs ok hp r q => by
    subst e
    rw [r.bls] at hp
    exact ⟨p, ns, rfl, SqL.of hp, q S _ _ (Gr.refl ok) rpb hk⟩)
theorem ec_anyI (h : EL K E ta Γ (fun ds => ∃ ns : List Int, ds = ns.map D.int ∧ k (.bl (ns.any fun n => n != 0))) kx) : EC K E (tCB (zAnyI K) (tCons ta tNil)) Γ k kx :=
  ec_cb1 (h.mono fun ds ⟨ns, e, hk⟩ S Q p xs ok hp r q => by
    subst e
    rw [r.ints] at hp
    exact ⟨p, ns, rfl, SqL.of hp, q S _ _ (Gr.refl ok) rpb hk⟩)
theorem en_sorted (h : EL K E ta Γ (fun ds => ∃ ns : List Int, ds = ns.map D.int ∧ ∀ ns' : List Int, ns'.Perm ns → ns'.Pairwise (· ≤ ·) → kl (ns'.map D.int)) kx) : EN K E (tCB (rSortedI K) (tCons ta tNil)) Γ kl kx :=
  en_cb1 (h.mono fun ds ⟨ns, e, hk⟩ S Q p xs ok hp r q => by
    subst e
    rw [r.ints] at hp
    exact ⟨p, ns, rfl, SqL.of hp, fun ns' l h1 h2 hn => q l _ _ hn (RpL.of_ints ns') (hk ns' h1 h2)⟩)
theorem en_list (h : EL K E ta Γ kl kx) : EN K E (tCB (zList K) (tCons ta tNil)) Γ kl kx :=
  en_cb1 (h.mono fun ds hk S Q p xs ok hp r q => ⟨p, xs, rfl, .inl (SqL.of hp), fun l hn => q l xs ds hn r hk⟩)
theorem ec_abs (h : EC K E ta Γ (fun d => ∃ i, d = .int i ∧ k (.int (if i < 0 then -i else i))) kx) : EC K E (tCB zAbs (tCons ta tNil)) Γ k kx := by
  refine ec_cb (ea_cons (h.mono fun d ⟨i, e, hk⟩ => ea_nil ?_))
  subst e
  intro S Q vs ok r q
  obtain ⟨y, ys, rfl, r1, r2⟩ := r.cons_inv
  cases r2.nil_inv
  exact ⟨i, by rw [r1.int], q S _ _ (Gr.refl ok) rpi hk⟩
theorem ec_max2 (h : EA K E al Γ (fun ds => ∃ i j : Int, ds = [.int i, .int j] ∧ k (.int (if j > i then j else i))) kx) : EC K E (tCB zMax2 al) Γ k kx := by
  refine ec_cb (h.mono fun ds ⟨i, j, e, hk⟩ => ?_)
  subst e
  intro S Q vs ok r q
  obtain ⟨y, ys, rfl, r1, r2⟩ := r.cons_inv
  obtain ⟨z, zs, rfl, r3, r4⟩ := r2.cons_inv
  cases r4.nil_inv
  exact ⟨i, j, by rw [r1.int, r3.int], q S _ _ (Gr.refl ok) rpi hk⟩
theorem ec_min2 (h : EA K E al Γ (fun ds => ∃ i j : Int, ds = [.int i, .int j] ∧ k (.int (if j < i then j else i))) kx) : EC K E (tCB zMin2 al) Γ k kx := by
  refine ec_cb (h.mono fun ds ⟨i, j, e, hk⟩ => ?_)
  subst e
  intro S Q vs ok r q
  obtain ⟨y, ys, rfl, r1, r2⟩ := r.cons_inv
  obtain ⟨z, zs, rfl, r3, r4⟩ := r2.cons_inv
  cases r4.nil_inv
  exact ⟨i, j, by rw [r1.int, r3.int], q S _ _ (Gr.refl ok) rpi hk⟩
theorem ec_intB (h : EC K E ta Γ (fun d => ∃ b, d = .bl b ∧ k (.int (if b then 1 else 0))) kx) : EC K E (tCB zInt (tCons ta tNil)) Γ k kx := by
  refine ec_cb (ea_cons (h.mono fun d ⟨i, e, hk⟩ => ea_nil ?_))
  subst e
  intro S Q vs ok r q
  obtain ⟨y, ys, rfl, r1, r2⟩ := r.cons_inv
  cases r2.nil_inv
  unfold Rp at r1
  exact .inr ⟨i, by rw [r1], q S _ _ (Gr.refl ok) rpi hk⟩

/-! ### subscripts, slices, + and * of lists -/
theorem atI_rel {ds : List D} {xs : List V} {z : Int} {d : D} (r : RpL K S ds xs) (h : atI ds z = some d) : ∃ v, atI xs z = some v ∧ Rp K S d v := by
  unfold atI at h ⊢
  rw [r.length]
  cases e : ixN ds.length z with
  | none => rw [e] at h; cases h
  | some j =>
    rw [e] at h
    obtain ⟨v, e1, r1⟩ := r.get (i := j) h
    exact ⟨v, e1, r1⟩
theorem ec_ix (h : EL K E ta Γ (fun ds => EC K E tb Γ (fun y => ∃ (z : Int) (d : D), y = .int z ∧ atI ds z = some d ∧ k d) kx) kx) : EC K E (tOp (rIxL K) ta tb) Γ k kx := fun S0 S σ Q e q x =>
  h S0 S σ _ e (fun T p xs ds g hp hm r h2 => h2 S0 T σ _ (e.gr g) (fun U v y g2 r2 ⟨z, d, ey, ha, kd⟩ => by
    subst ey
    obtain ⟨w, e1, r1⟩ := atI_rel (r.mono g2.le) ha
    exact ⟨p, xs, z, w, rfl, r2.int, SqL.of (g2.hp _ _ hp hm), e1, q U w d (g.trans g2) r1 kd⟩) (x.gr g)) x
theorem ec_ixT (h : EC K E ta Γ (fun d => ∃ ds, d = .tup ds ∧ EC K E tb Γ (fun y => ∃ (z : Int) (d : D), y = .int z ∧ atI ds z = some d ∧ k d) kx) kx) : EC K E (tOp (rIxT K) ta tb) Γ k kx := fun S0 S σ Q e q x =>
  h S0 S σ _ e (fun T v d g r ⟨ds, ed, h2⟩ => by
    subst ed
    unfold Rp at r
    obtain ⟨a, xs, rfl, f, r⟩ := r
    refine h2 S0 T σ _ (e.gr g) (fun U v y g2 r2 ⟨z, d, ey, ha, kd⟩ => ?_) (x.gr g)
    subst ey
    obtain ⟨w, e1, r1⟩ := atI_rel (r.mono g2.le) ha
    exact ⟨a, xs, z, w, rfl, r2.int, sqt_mono g2.ok.sub (sqt_mono g2.fz f), e1, q U w d (g.trans g2) r1 kd⟩) x
theorem ec_ixScr (h : EC K E ta Γ (fun d => ∃ ns, d = .scr ns ∧ EC K E tb Γ (fun y => ∃ (z n : Int), y = .int z ∧ atI ns z = some n ∧ k (.int n)) kx) kx) : EC K E (tOp (rIxL K) ta tb) Γ k kx := fun S0 S σ Q e q x =>
  h S0 S σ _ e (fun T v d g r ⟨ns, ed, h2⟩ => by
    subst ed
    unfold Rp at r
    obtain ⟨a, rfl, f⟩ := r
    refine h2 S0 T σ _ (e.gr g) (fun U v y g2 r2 ⟨z, n, ey, ha, kd⟩ => ?_) (x.gr g)
    subst ey
    refine ⟨a, ns.map V.int, z, .int n, rfl, r2.int, sql_mono g2.ok.sub (sql_mono g2.fz f), ?_, q U _ _ (g.trans g2) rpi kd⟩
    unfold atI at ha ⊢
    rw [List.length_map]
    cases e : ixN ns.length z with
    | none => rw [e] at ha; cases ha
    | some j =>
      rw [e] at ha
      show (ns.map V.int)[j]? = _
      rw [List.getElem?_map, show ns[j]? = some n from ha]
      rfl) x
def EO (K : PySem.W.Frag) (E : L2.St → XK) (to : TO) (Γ : Ctx) (ko : Option Int → Prop) (kx : Addr → D → Prop) : Prop := ∀ (S0 S : Wd) (σ : L2.St) (Q : Option Int → Hp → Prop), EnvOk K S0 S σ Γ → (∀ (T : Wd) o, Gr S T → ko o → Q o T.H) → XP K (E σ) S kx → to σ S.H Q
theorem eo_none {ko : Option Int → Prop} (h : ko none) : EO K E tNoPart Γ ko kx := fun S0 S σ Q e q x => q S none (Gr.refl e.ok) h
theorem eo_some {ko : Option Int → Prop} (h : EC K E te Γ (fun d => ∃ i, d = .int i ∧ ko (some i)) kx) : EO K E (tPart te) Γ ko kx := fun S0 S σ Q e q x =>
  h S0 S σ _ e (fun T v d g r ⟨i, ed, kd⟩ => by
    subst ed
    exact ⟨i, r.int, q T (some i) g kd⟩) x
def cut {α : Type} (xs : List α) (lo hi : Option Int) : List α := (xs.drop (HT.sIx xs.length 0 lo)).take (HT.sIx xs.length xs.length hi - HT.sIx xs.length 0 lo)
theorem RpL.cut {ds : List D} {xs : List V} (r : RpL K S ds xs) (lo hi : Option Int) : RpL K S (cut ds lo hi) (cutV xs lo hi) := by
  unfold Z.cut cutV
  rw [r.length]
  exact (r.drop _).take _
theorem en_slice {tl th : TO} (h : EL K E te Γ (fun ds => EO K E tl Γ (fun lo => EO K E th Γ (fun hi => kl (cut ds lo hi)) kx) kx) kx) : EN K E (tSl (rSlL K) te tl th) Γ kl kx := fun S0 S σ Q e q x =>
  h S0 S σ _ e (fun T p xs ds g hp hm r h2 => h2 S0 T σ _ (e.gr g) (fun U lo g2 h3 => h3 S0 U σ _ (e.gr (g.trans g2)) (fun W hi g3 kd => by
    have g23 := g2.trans g3
    have gg := g.trans g23
    refine ⟨p, xs, rfl, SqL.of (g23.hp _ _ hp hm), fun l hn => ?_⟩
    have g4 := Gr.layO gg.ok hn (.lst (cutV xs lo hi))
    exact q ⟨W.F, upd W.H l (.lst (cutV xs lo hi)), W.M⟩ l _ _ (gg.trans g4) (gg.new hn) upd_same (gg.ok.fnone hn) (gg.ok.mnone hn) (RpL.cut (r.mono (g23.trans g4).le) lo hi) kd) (x.gr (g.trans g2))) (x.gr g)) x
theorem en_cat (h : EL K E ta Γ (fun ds => EL K E tb Γ (fun es => ds.length + es.length ≤ 1000000 ∧ kl (ds ++ es)) kx) kx) : EN K E (tOp rCat ta tb) Γ kl kx := fun S0 S σ Q e q x =>
  h S0 S σ _ e (fun T p xs ds g hp hm r h2 => h2 S0 T σ _ (e.gr g) (fun U p2 ys es g2 hp2 hm2 r2 ⟨hl, kd⟩ => by
    have gg := g.trans g2
    refine ⟨p, p2, xs, ys, rfl, rfl, g2.hp _ _ hp hm, hp2, by rw [r.length, r2.length]; exact big hl, fun l hn => ?_⟩
    have g4 := Gr.layO gg.ok hn (.lst (xs ++ ys))
    exact q ⟨U.F, upd U.H l (.lst (xs ++ ys)), U.M⟩ l _ _ (gg.trans g4) (gg.new hn) upd_same (gg.ok.fnone hn) (gg.ok.mnone hn) (RpL.append (r.mono (g2.trans g4).le) (r2.mono g4.le)) kd) (x.gr g)) x
theorem RpL.rep {ds : List D} {xs : List V} (r : RpL K S ds xs) : ∀ n : Nat, RpL K S (List.replicate n ds).flatten (List.replicate n xs).flatten
  | 0 => RpL.nil
  | n + 1 => by
    rw [List.replicate_succ, List.replicate_succ, List.flatten_cons, List.flatten_cons]
    exact RpL.append r (RpL.rep r n)
theorem en_rep (h : EL K E ta Γ (fun ds => EC K E tb Γ (fun y => ∃ n : Int, y = .int n ∧ (-1000000 ≤ n ∧ n ≤ 1000000) ∧ ds.length * n.toNat ≤ 1000000 ∧ kl (List.replicate n.toNat ds).flatten) kx) kx) : EN K E (tOp rRep ta tb) Γ kl kx := fun S0 S σ Q e q x =>
  h S0 S σ _ e (fun T p xs ds g hp hm r h2 => h2 S0 T σ _ (e.gr g) (fun U v y g2 r2 ⟨n, ey, hn1, hz, kd⟩ => by
    subst ey
    have gg := g.trans g2
    refine ⟨p, n, xs, rfl, r2.int, g2.hp _ _ hp hm, by omega, by omega, by rw [r.length]; exact big hz, fun l hn => ?_⟩
    have g4 := Gr.layO gg.ok hn (.lst (List.replicate n.toNat xs).flatten)
    exact q ⟨U.F, upd U.H l _, U.M⟩ l _ _ (gg.trans g4) (gg.new hn) upd_same (gg.ok.fnone hn) (gg.ok.mnone hn) (RpL.rep (r.mono (g2.trans g4).le) _) kd) (x.gr g)) x
/-- a < b < c -/
theorem ec_chain {r r' : R2} (h : EC K E ta Γ (fun x => EC K E tb Γ (fun y => RD K r x y (fun z => ∃ b, z = .bl b ∧ if b = true then EC K E tc Γ (fun w => RD K r' y w k) kx else k (.bl false))) kx) kx) : EC K E (tChain r r' ta tb tc) Γ k kx := fun S0 S σ Q e q x =>
  h S0 S σ _ e (fun T v d g r1 h2 => h2 S0 T σ _ (e.gr g) (fun U w d2 g2 r2 h3 => h3 U _ v w g2.ok (r1.mono g2.le) r2 fun W z dz g3 r3 ⟨b, ez, kd⟩ => by
    subst ez
    unfold Rp at r3
    refine ⟨b, r3, ?_⟩
    have gg := (g.trans g2).trans g3
    cases b with
    | true =>
      have h4 : EC K E tc Γ (fun w => RD K r' d2 w k) kx := kd
      show tc σ W.H _
      exact h4 S0 W σ _ (e.gr gg) (fun Y u du g4 r4 h5 => h5 Y Q w u g4.ok (r2.mono (g3.trans g4).le) r4 fun Z a da g5 r5 k5 => q Z a da ((gg.trans g4).trans g5) r5 k5) (x.gr gg)
    | false =>
      have h4 : k (.bl false) := kd
      exact q W _ _ gg rpb h4) (x.gr g)) x

/-! ### pools -/
theorem ec_pool0 (h : EC K E ta Γ (fun d => d = .pool ∧ ∀ z : Int, k (.int z)) kx) : EC K E (tOp (rIxL K) ta (tC (.int 0))) Γ k kx := fun S0 S σ Q e q x =>
  h S0 S σ _ e (fun T v d g r ⟨ed, hk⟩ => by
    subst ed
    unfold Rp at r
    obtain ⟨a, rfl, hm⟩ := r
    obtain ⟨hf, z, y, hp, hy⟩ := g.ok.pool a hm
    exact ⟨a, _, 0, .int z, rfl, rfl, SqL.of hp, rfl, q T _ _ g rpi (hk z)⟩) x
theorem ec_pool1 (h : EC K E ta Γ (fun d => d = .pool ∧ ∀ z : Int, 0 ≤ z → z < 4294967296 → k (.int z)) kx) : EC K E (tOp (rIxL K) ta (tC (.int 1))) Γ k kx := fun S0 S σ Q e q x =>
  h S0 S σ _ e (fun T v d g r ⟨ed, hk⟩ => by
    subst ed
    unfold Rp at r
    obtain ⟨a, rfl, hm⟩ := r
    obtain ⟨hf, z, y, hp, hy⟩ := g.ok.pool a hm
    exact ⟨a, _, 1, .int y, rfl, rfl, SqL.of hp, rfl, q T _ _ g rpi (hk y hy.1 hy.2)⟩) x
theorem sc_pool0 (h : EC K E te Γ (fun d => ∃ n : Int, d = .int n ∧ EC K E ta Γ (fun p => p = .pool ∧ P.nx Γ) (P.kx Γ)) (P.kx Γ)) : SC K E (tAsg te (gSub ta (tC (.int 0)) rSetL)) Γ P := fun S0 S σ D g e G =>
  h S0 S σ _ e (fun T v d g2 r ⟨n, ed, h2⟩ => by
    subst ed
    refine h2 S0 T σ _ (e.gr g2) (fun U w y g3 r3 ⟨ey, kd⟩ => ?_) (G.kx T σ Γ (g.trans g2) g2.le (e.gr g2))
    subst ey
    unfold Rp at r3
    obtain ⟨a, rfl, hm⟩ := r3
    obtain ⟨hf, z, y, hp, hy⟩ := g3.ok.pool a hm
    have g4 := Gr.poolSet g3.ok hm n y hy
    have gg := (g2.trans g3).trans g4
    refine ⟨a, _, 0, 0, rfl, rfl, hp, rfl, ?_⟩
    rw [r.int]
    exact G.nx _ σ Γ (g.trans gg) gg.le (e.gr gg) kd) (G.kx S σ Γ g (Le.refl S) e)
theorem sc_pool1 (h : EC K E te Γ (fun d => ∃ n : Int, d = .int n ∧ (0 ≤ n ∧ n < 4294967296) ∧ EC K E ta Γ (fun p => p = .pool ∧ P.nx Γ) (P.kx Γ)) (P.kx Γ)) : SC K E (tAsg te (gSub ta (tC (.int 1)) rSetL)) Γ P := fun S0 S σ D g e G =>
  h S0 S σ _ e (fun T v d g2 r ⟨n, ed, hn, h2⟩ => by
    subst ed
    refine h2 S0 T σ _ (e.gr g2) (fun U w y g3 r3 ⟨ey, kd⟩ => ?_) (G.kx T σ Γ (g.trans g2) g2.le (e.gr g2))
    subst ey
    unfold Rp at r3
    obtain ⟨a, rfl, hm⟩ := r3
    obtain ⟨hf, z, y, hp, hy⟩ := g3.ok.pool a hm
    have g4 := Gr.poolSet g3.ok hm z n hn
    have gg := (g2.trans g3).trans g4
    refine ⟨a, _, 1, 1, rfl, rfl, hp, rfl, ?_⟩
    rw [r.int]
    exact G.nx _ σ Γ (g.trans gg) gg.le (e.gr gg) kd) (G.kx S σ Γ g (Le.refl S) e)
theorem sc_toPool (i : Nat) {x y : Int} (h : Γ[i]? = some (.own [.int x, .int y])) (hy : 0 ≤ y ∧ y < 4294967296) (hs : SC K E t (Γ.set i (.dat .pool)) P) : SC K E t Γ P := fun S0 S σ D g e G => by
  obtain ⟨l, xs, h1, h2, h3, h4, h0, r⟩ := e.own i _ h
  obtain ⟨a, as, rfl, r1, r2⟩ := r.cons_inv
  obtain ⟨b, bs, rfl, r3, r4⟩ := r2.cons_inv
  cases r4.nil_inv
  rw [r1.int, r3.int] at h2
  have g2 : Gr S0 (S.mk' l .pool) := g.mkc h0 h3 h4 ⟨x, y, h2, hy⟩
  have e2 := e.step i (T := S.mk' l .pool) (s' := .dat .pool) (x' := some (.ref l)) g2.ok fun B hB _ => by
    obtain ⟨l2, _, rfl, q, _⟩ := hB _ h
    rw [h1] at q
    cases q
    refine ⟨fun A hA => Keeps.mkc h4 fun z => hA l z (List.mem_singleton.mpr rfl), [], ⟨rfl, _, rfl, ?_⟩, List.nodup_nil, fun _ h => nomatch h⟩
    unfold Rp
    exact ⟨l, rfl, if_pos rfl⟩
  have es : σ.set i (some (.ref l)) = σ := by
    apply List.ext_getElem?
    intro j
    by_cases hj : i = j
    · subst hj
      rw [List.getElem?_set_self (List.getElem?_eq_some_iff.mp h1).1, h1]
    · rw [List.getElem?_set_ne hj]
  rw [es] at e2
  exact hs S0 (S.mk' l .pool) σ D g2 e2 (G.le (Le.mkc h4))
end
end Z

namespace Z
open PySem PySem.Spec PyProof.Rows L2
/-- a def of the module that may be called by its name -/
structure Cal (P : Program) (w : World) (K : PySem.W.Frag) (mg : Str → Option Value) (base : Heap) (x : Str) (k : Nat) (ps : List Str) (sp : Sp) : Prop where
  ex : ∃ (f : Addr) (fd : FuncData), FnOk P w K mg base (L2.CX P w) k f fd ps sp ∧ mg x = some (.ref f) ∧ PySem.W.keepIn K (.ref f) = true ∧ Binds K fd ps []
def Gv (mg : Str → Option Value) (x : Str) (v : V) : Prop := ∃ u, mg x = some u ∧ RelV v u
theorem passA0 {X : Cx} (σ : L2.St) : PassesAt (L2.CX X.prog X.w) X σ (ES0 σ) := fun _ _ _ _ _ _ h => by
  obtain ⟨_, _, _, _, _, _, _, _, _, _, _, _, z⟩ := h
  exact z.elim
section
variable {X : Cx}
/-- a call that raises nothing here -/
theorem pe_callC {x : Str} {k : Nat} {ps : List Str} {sp : Sp} {e : Expr} {es : List Expr} {t : TA} {p pos : Pos} (C : Cal X.prog X.w X.K X.mg X.base x k ps sp) (hr : Room k X.A) (hg : Gl X x) (ha : PA X (e :: es) t) (hdb : (x == ("__debug__" : Str)) = false := by decide)
    (he : starEach (e :: es) X.env = (false, eval e X.env) :: starEach es X.env := by rfl) (hpl : (backTo pos (starEach es X.env)).any (·.1) = false := by rfl) : PE X (.Call (.Name x p) (e :: es) [] pos) (tCallSD sp [] ES0 t) := by
  obtain ⟨f, fd, F, hm, hk, hb⟩ := C.ex
  exact pe_callSD F hr hg hm hk hb .nil passA0 ha hdb he hpl
/-- a call that may raise -/
theorem pe_callX {W : WX} {x : Str} {k : Nat} {ps : List Str} {sp : Sp} {e : Expr} {es : List Expr} {t : TA} {p pos : Pos} (tk : Takes X W) (C : Cal X.prog X.w X.K X.mg X.base x k ps sp) (hr : Room k X.A) (hg : Gl X x) (ha : PA X (e :: es) t) (hdb : (x == ("__debug__" : Str)) = false := by decide)
    (he : starEach (e :: es) X.env = (false, eval e X.env) :: starEach es X.env := by rfl) (hpl : (backTo pos (starEach es X.env)).any (·.1) = false := by rfl) : PE X (.Call (.Name x p) (e :: es) [] pos) (tCallSD sp [] (WE W) t) := by
  obtain ⟨f, fd, F, hm, hk, hb⟩ := C.ex
  exact pe_callSD F hr hg hm hk hb .nil (fun σ => passAt tk σ) ha hdb he hpl
theorem pe_gC {x : Str} {v : V} {pos : Pos} (hg : Gl X x) (h : Gv X.mg x v) (hd : (x == ("__debug__" : Str)) = false := by decide) : PE X (.Name x pos) (tC v) := by
  obtain ⟨u, hm, r⟩ := h
  exact pe_glob hg hm r hd
end
theorem Cal.of {P : Program} {w : World} {K : PySem.W.Frag} {mg : Str → Option Value} {base : Heap} {x qual : Str} {st : Stmt} {f : Addr} {fd : FuncData} {k : Nat} {ps : List Str} {sp : Sp} (F : Fun K x qual st f fd) (g : mg x = some (.ref f)) (b : Binds K fd ps []) (h : FnOk P w K mg base (L2.CX P w) k f fd ps sp) :
    Cal P w K mg base x k ps sp := ⟨f, fd, h, g, F.kp, b⟩
/-- the law: of a script it gives True -/
def wpLaw : WP := fun ds q _ => ∃ ns : List Int, ds = [.scr ns] ∧ ns.length ≤ 63 ∧ q (.bl true)
theorem law_sp {K : PySem.W.Frag} {H : Hp} {a : Addr} {ns : List Int} (hl : ns.length ≤ 63) (hS : SqL K H a (ns.map V.int)) : spD K wpLaw [.ref a] H (fun v _ => v = .bl true) fun _ _ _ => False := by
  refine ⟨⟨H, H, fun _ => none⟩, [.scr ns], fun d => d = .bl true, F0, ⟨fun _ _ e => e, fun _ _ e => (nomatch e), fun _ _ e => e⟩, rfl, RpL.cons ?_ RpL.nil, ⟨ns, rfl, hl, rfl⟩, fun T v d g r e => ?_, xp0⟩
  · unfold Rp
    exact ⟨a, rfl, hS⟩
  · subst e
    unfold Rp at r
    exact r
end Z

namespace Z
open PySem PySem.Spec PyProof.Rows L2
section
variable {K : PySem.W.Frag} {E : L2.St → XK} {k : D → Prop} {i j : Int}
theorem ite_of {c : Bool} {A B : Prop} (h1 : c = true → A) (h2 : c = false → B) : if c = true then A else B := by
  cases c with
  | true => exact h1 rfl
  | false => exact h2 rfl
theorem ite_d {c : Prop} [Decidable c] {A B : Prop} (h1 : c → A) (h2 : ¬ c → B) : if decide c = true then A else B := by
  by_cases h : c
  · rw [decide_eq_true h]
    exact h1 h
  · rw [decide_eq_false h]
    exact h2 h
theorem ite_nd {c : Prop} [Decidable c] {A B : Prop} (h1 : ¬ c → A) (h2 : c → B) : if (!decide c) = true then A else B := by
  by_cases h : c
  · rw [decide_eq_true h]
    exact h2 h
  · rw [decide_eq_false h]
    exact h1 h
theorem ec_lenS {ta : TE} {Γ : Ctx} {kx : Addr → D → Prop} (h : EC K E ta Γ (fun d => ∃ ns, d = .scr ns ∧ k (.int (ns.length : Nat))) kx) : EC K E (tCB (zLen K) (tCons ta tNil)) Γ k kx := by
  refine ec_lenD (h.mono ?_)
  rintro d ⟨ns, rfl, hk⟩
  exact hk
theorem sc_seqR {te : TE} {tt : TT} {u : TS} {Γ : Ctx} {P : Po} (h : SC K E (tIfS tt (tRet te) tNext) Γ { P with nx := fun Δ => SC K E u Δ P }) : SC K E (tSeq (tIfS tt (tRet te) tNext) u) Γ P := sc_seq h
theorem sc_seqN {tt : TT} {u : TS} {Γ : Ctx} {P : Po} (h : SC K E (tIfS tt tNever tNext) Γ { P with nx := fun Δ => SC K E u Δ P }) : SC K E (tSeq (tIfS tt tNever tNext) u) Γ P := sc_seq h
theorem sc_seqI {tt : TT} {t v u : TS} {Γ : Ctx} {P : Po} (h : SC K E (tIfS tt t v) Γ { P with nx := fun Δ => SC K E u Δ P }) : SC K E (tSeq (tIfS tt t v) u) Γ P := sc_seq h
theorem atI_of {α : Type} {xs : List α} {z : Int} {j : Nat} {v : α} (e : z = (j : Int)) (h : xs[j]? = some v) : atI xs z = some v := by
  rw [e]
  exact atI_nat h
theorem rd_mod (h : 0 < j) (hk : k (.int (i % j))) : RD K (rI (fun _ j => 0 < j) fun i j => .int (i % j)) (.int i) (.int j) k := rd_intC h hk
theorem log_lt {j : Int} (h : 0 < j) (h2 : j < 10 ^ 250) : j.natAbs.log2 < 9000 := by
  have e : j.natAbs < 2 ^ 1000 := by
    have h3 : ((10 : Int) ^ 250) < 2 ^ 1000 := by decide +kernel
    have h4 : (j.natAbs : Int) = j := by omega
    have h5 : (j.natAbs : Int) < ((2 ^ 1000 : Nat) : Int) := by
      rw [h4]
      exact Int.lt_trans h2 (by rw [Int.natCast_pow]; exact h3)
    exact Int.ofNat_lt.mp h5
  exact Nat.lt_of_lt_of_le (PySem.Flt.log2_lt_of (by decide) e) (by decide)
theorem rd_fdiv (h : 0 < j) (h2 : j < 10 ^ 250) (hk : k (.int (i / j))) : RD K (rI CDivW fun i j => .int (i / j)) (.int i) (.int j) k := rd_intC ⟨h, log_lt h h2⟩ hk
theorem rd_mulL (h : -(2 ^ 64) < i ∧ i < 2 ^ 64) (hk : k (.int (i * j))) : RD K (rI CMul fun i j => .int (i * j)) (.int i) (.int j) k := rd_intC (.inl h) hk
theorem rd_mulR (h : -(2 ^ 64) < j ∧ j < 2 ^ 64) (hk : k (.int (i * j))) : RD K (rI CMul fun i j => .int (i * j)) (.int i) (.int j) k := rd_intC (.inr h) hk
theorem rd_pow (h : CPow i j) (hk : k (.int (i ^ j.toNat))) : RD K (rI CPow fun i j => .int (i ^ j.toNat)) (.int i) (.int j) k := rd_intC h hk
end
end Z
namespace Z
open PySem PySem.Spec PyProof.Rows L2
section
variable {K : PySem.W.Frag} {E : L2.St → XK} {S : Wd} {te ta tb tc tl : TE} {Γ : Ctx} {k : D → Prop} {kx : Addr → D → Prop} {P : Po} {kl : List D → Prop} {al : TA}
/-- the built-in class of data -/
def D.kind : D → Option String
  | .non => some "NoneType"
  | .bl _ => some "bool"
  | .int _ => some "int"
  | .str _ => some "str"
  | .lst _ => some "list"
  | .tup _ => some "tuple"
  | .dic _ _ _ => some "dict"
  | _ => none
theorem D.tyx {d : D} {v : V} {t : String} (ok : S.Ok) (r : Rp K S d v) (h : d.kind = some t) : TyX K S.H v (.type t) := by
  cases d with
  | non => unfold Rp at r; subst r; cases h; exact .base .non
  | bl b => unfold Rp at r; subst r; cases h; exact .base (.bl b)
  | int i => unfold Rp at r; subst r; cases h; exact .base (.int i)
  | str x => unfold Rp at r; subst r; cases h; exact .base (.str x)
  | lst ds =>
    unfold Rp at r
    obtain ⟨a, xs, rfl, f, r⟩ := r
    cases h
    exact .base (.lst (ok.sub _ _ f))
  | tup ds =>
    unfold Rp at r
    obtain ⟨a, xs, rfl, f, r⟩ := r
    cases h
    rcases f with (f | ⟨o, f⟩) | ⟨o, its, n, e, c, _⟩
    · exact .base (.tup (ok.sub _ _ f))
    · exact .fTuple (ok.sub _ _ f)
    · exact .kTuple e c
  | dic a ks ds =>
    unfold Rp at r
    obtain ⟨xs, rfl, f, _⟩ := r
    cases h
    exact .base (.dK (ok.sub _ _ f))
  | _ => cases h
theorem ec_isi {T : String} (h : EC K E ta Γ (fun d => ∃ t b, d.kind = some t ∧ kitB t T = some b ∧ k (.bl b)) kx) : EC K E (tCB (rIsi K) (tCons ta (tCons (tC (.ty T)) tNil))) Γ k kx := by
  refine ec_cb (ea_cons (h.mono fun d ⟨t, b, h1, h2, hk⟩ => ea_cons (ec_val (ea_nil ?_))))
  intro S Q vs ok r q
  obtain ⟨y, ys, rfl, r1, r2⟩ := r.cons_inv
  obtain ⟨z, zs, rfl, r3, r4⟩ := r2.cons_inv
  cases r4.nil_inv
  unfold Rp at r3
  subst r3
  exact ⟨y, .ty T, .type t, .type T, b, rfl, .ty T, D.tyx ok r1 h1, kit_ty h2, q S _ _ (Gr.refl ok) rpb hk⟩
theorem isi_ll : kitB "list" "list" = some true := by decide +kernel
theorem isi_ii : kitB "int" "int" = some true := by decide +kernel
theorem isi_ib : kitB "int" "bool" = some false := by decide +kernel
theorem isi_bi : kitB "bool" "int" = some true := by decide +kernel
theorem isi_bb : kitB "bool" "bool" = some true := by decide +kernel
theorem cut_map {α β : Type} (f : α → β) (xs : List α) (lo hi : Option Int) : cut (xs.map f) lo hi = (cut xs lo hi).map f := by
  unfold cut
  rw [List.length_map, List.map_take, List.map_drop]
theorem zip_tup {α β : Type} (e1 : α → D) (e2 : β → D) (xs : List α) (ys : List β) : ((xs.map e1).zip (ys.map e2)).map (fun p => D.tup [p.1, p.2]) = (xs.zip ys).map (fun p => D.tup [e1 p.1, e2 p.2]) := by
  rw [List.zip_map, List.map_map]
  rfl
theorem enum_tup {α : Type} (e : α → D) (xs : List α) : ((xs.map e).zipIdx).map (fun p => D.tup [.int p.2, p.1]) = xs.zipIdx.map (fun p => D.tup [.int p.2, e p.1]) := by
  rw [List.zipIdx_map, List.map_map]
  rfl
theorem cut_from {α : Type} (xs : List α) (n : Nat) : cut xs (some (n : Int)) none = xs.drop n := by
  unfold cut
  rw [HT.sIx_nat, HT.sIx_none]
  by_cases h : n ≤ xs.length
  · rw [Nat.min_eq_left h]
    exact List.take_of_length_le (by rw [List.length_drop]; exact Nat.le_refl _)
  · rw [Nat.min_eq_right (by omega), List.drop_of_length_le (Nat.le_refl _), List.drop_of_length_le (by omega)]
    simp
theorem cut_to {α : Type} (xs : List α) (n : Nat) : cut xs none (some (n : Int)) = xs.take n := by
  unfold cut
  rw [HT.sIx_nat, HT.sIx_none]
  show (xs.drop 0).take (min n xs.length - 0) = _
  rw [List.drop_zero, Nat.sub_zero]
  by_cases h : n ≤ xs.length
  · rw [Nat.min_eq_left h]
  · rw [Nat.min_eq_right (by omega), List.take_of_length_le (Nat.le_refl _), List.take_of_length_le (by omega)]
theorem cut_butlast {α : Type} (xs : List α) (n : Nat) : cut xs (some (n : Int)) (some (-1)) = xs.dropLast.drop n := by
  unfold cut
  rw [HT.sIx_nat]
  have e : HT.sIx xs.length xs.length (some (-1)) = xs.length - 1 := by
    unfold HT.sIx
    simp
    omega
  rw [e, List.dropLast_eq_take, List.drop_take]
  by_cases h : n ≤ xs.length
  · rw [Nat.min_eq_left h]
  · rw [Nat.min_eq_right (by omega), List.drop_of_length_le (Nat.le_refl _), List.drop_of_length_le (by omega)]
    simp
theorem rpl_rev : ∀ {ds : List D} {xs : List V}, RpL K S ds xs → RpL K S ds.reverse xs.reverse
  | [], _, r => by
    rw [r.nil_inv]
    exact RpL.nil
  | d :: ds, _, r => by
    obtain ⟨y, ys, rfl, r1, r2⟩ := r.cons_inv
    rw [List.reverse_cons, List.reverse_cons]
    exact RpL.append (rpl_rev r2) (RpL.cons r1 RpL.nil)
theorem en_revL (h : EL K E te Γ (fun ds => kl ds.reverse) kx) : EN K E (tRevL K te) Γ kl kx := fun S0 S σ Q e q x =>
  h S0 S σ _ e (fun T p xs ds g hp hm r kd => ⟨p, xs, rfl, SqL.of hp, fun l hn => by
    have g4 := Gr.layO g.ok hn (.lst xs.reverse)
    exact q ⟨T.F, upd T.H l _, T.M⟩ l _ _ (g.trans g4) (g.new hn) upd_same (g.ok.fnone hn) (g.ok.mnone hn) ((rpl_rev r).mono g4.le) kd⟩) x
theorem iteNTF {A B : Prop} (b : B) : if (!true) = true then A else B := b
theorem iteNFT {A B : Prop} (a : A) : if (!false) = true then A else B := a
theorem ite_dT {c : Prop} [Decidable c] {A B : Prop} (h : c) (a : A) : if decide c = true then A else B := by
  rw [decide_eq_true h]
  exact a
theorem ite_dF {c : Prop} [Decidable c] {A B : Prop} (h : ¬ c) (b : B) : if decide c = true then A else B := by
  rw [decide_eq_false h]
  exact b
theorem ite_nT {c : Prop} [Decidable c] {A B : Prop} (h : ¬ c) (a : A) : if (!decide c) = true then A else B := by
  rw [decide_eq_false h]
  exact a
theorem ite_nF {c : Prop} [Decidable c] {A B : Prop} (h : c) (b : B) : if (!decide c) = true then A else B := by
  rw [decide_eq_true h]
  exact b
/-- for x in a list at a slot -/
theorem sc_forL {i : Nat} {ds : List D} {g : TG} {t : TS} (h : Γ[i]? = some (.dat (.lst ds))) (Iv : Nat → Ctx → Prop) (h0 : Iv 0 Γ) (hs : ∀ (i : Nat) d Δ, ds[i]? = some d → Iv i Δ → GC K g d Δ fun Δ' => SC K E t Δ' { P with nx := Iv (i + 1), ct := Iv (i + 1), bk := P.nx })
    (hd : ∀ Δ, Iv ds.length Δ → P.nx Δ) : SC K E (tFor (iList K (tVar i)) g t) Γ P := sc_for (ei_list (ec_var h ⟨ds, rfl, Iv, h0, hs, hd⟩))
theorem get_ints {ns : List Int} {i : Nat} {d : D} (h : (ns.map D.int)[i]? = some d) : ∃ n, d = .int n ∧ ns[i]? = some n := by
  rw [List.getElem?_map] at h
  cases e : ns[i]? with
  | none => rw [e] at h; cases h
  | some n =>
    rw [e] at h
    cases h
    exact ⟨n, rfl, rfl⟩
/-- over a range -/
theorem sc_forR {n : Int} {g : TG} {t : TS} (hn : n < 2 ^ 62) (Iv : Nat → Ctx → Prop) (h0 : Iv 0 Γ) (hs : ∀ (i : Nat) Δ, (i : Int) < n → Iv i Δ → GC K g (.int i) Δ fun Δ' => SC K E t Δ' { P with nx := Iv (i + 1), ct := Iv (i + 1), bk := P.nx })
    (hd : ∀ Δ, Iv n.toNat Δ → P.nx Δ) (ha : ∀ kl : List D → Prop, kl [.int n] → EA K E al Γ kl (P.kx Γ)) (hlo : -(2 ^ 62) ≤ n) : SC K E (tFor (iRng1 al) g t) Γ P := by
  refine sc_for (ei_range1 (ha _ ⟨n, rfl, ⟨hlo, hn⟩, Iv, h0, fun i d Δ e hI => ?_, fun Δ hI => hd Δ ?_⟩))
  · rw [List.getElem?_map] at e
    by_cases hi : i < n.toNat
    · rw [List.getElem?_range hi] at e
      cases e
      have e0 : (0 : Int) + (i : Int) = i := Int.zero_add _
      show GC K g (D.int (0 + (i : Int))) Δ _
      rw [e0]
      exact hs i Δ (by omega) hI
    · rw [List.getElem?_eq_none (by simpa using hi)] at e
      cases e
  · rw [List.length_map, List.length_range] at hI
    exact hI
end
end Z
namespace Z
open PySem PySem.Spec PyProof.Rows L2
/-! the rules that name the written part, with it told (within a comprehension's block the unifier cannot find it) -/
section
variable {X : Cx} (K : PySem.W.Frag)
theorem kix_list (hK : X.K = K := by rfl) : IxR X (rIxL K) := hK ▸ ix_list
theorem kix_tup (hK : X.K = K := by rfl) : IxR X (rIxT K) := hK ▸ ix_tup
theorem ksl_list (hK : X.K = K := by rfl) : SlR X (rSlL K) := hK ▸ sl_list
theorem kz_len (hK : X.K = K := by rfl) : CallR X (.builtin "len") (zLen K) := hK ▸ cz_len
theorem kr_sum (hc : X.calm = true := by rfl) (hK : X.K = K := by rfl) : CallR X (.builtin "sum") (rSum K) := hK ▸ cr_sum hc
theorem kr_max (hc : X.calm = true := by rfl) (hK : X.K = K := by rfl) : CallR X (.builtin "max") (rMax K) := hK ▸ cr_max hc
theorem kr_min (hc : X.calm = true := by rfl) (hK : X.K = K := by rfl) : CallR X (.builtin "min") (rMin K) := hK ▸ cr_min hc
theorem kr_any (hc : X.calm = true := by rfl) (hK : X.K = K := by rfl) : CallR X (.builtin "any") (rAny K) := hK ▸ cr_any hc
theorem kr_all (hc : X.calm = true := by rfl) (hK : X.K = K := by rfl) : CallR X (.builtin "all") (rAll K) := hK ▸ cr_all hc
theorem kz_anyI (hc : X.calm = true := by rfl) (hK : X.K = K := by rfl) : CallR X (.builtin "any") (zAnyI K) := hK ▸ cz_anyI hc
theorem kr_sortedI (hK : X.K = K := by rfl) : CallR X (.builtin "sorted") (rSortedI K) := hK ▸ cr_sortedI
theorem kz_list (hK : X.K = K := by rfl) : CallR X (.type "list") (zList K) := hK ▸ cz_list
theorem k_isi (hK : X.K = K := by rfl) : CallR X (.builtin "isinstance") (rIsi K) := hK ▸ call_isi
theorem kop_eqD (hu : X.A.units + 64 < cLine) (hK : X.K = K := by rfl) : OpR X (compareOp .Eq) (rEqD K) := hK ▸ op_eqD hu
theorem kop_neD (hu : X.A.units + 64 < cLine) (hK : X.K = K := by rfl) : OpR X (compareOp .NotEq) (rNeD K) := hK ▸ op_neD hu
theorem kop_in (hK : X.K = K := by rfl) : OpR X (compareOp .In) (rIn K false) := hK ▸ op_in_seq
theorem kop_notIn (hK : X.K = K := by rfl) : OpR X (compareOp .NotIn) (rIn K true) := hK ▸ op_notIn_seq
variable {tg e e2 l : Expr} {tl : TE} {ta : TA} {p pos tpos : Pos} {elts es : List Expr} {kk n : Nat}
theorem kpi_list (hl : PE X l tl) (hK : X.K = K := by rfl) : PI X tg l (iList K tl) := hK ▸ pi_list hl
theorem kpi_tup (hl : PE X l tl) (hK : X.K = K := by rfl) : PI X tg l (iTup K tl) := hK ▸ pi_tup hl
theorem kpi_enum (hg : Gl X "enumerate") (hm : X.mg "enumerate" = none) (ha : PA X [e] ta) (hs : starEach [e] X.env = [(false, eval e X.env)] := by rfl) (hK : X.K = K := by rfl) : PI X (.Tuple elts kk tpos) (.Call (.Name "enumerate" p) [e] [] pos) (iEnum K ta) := hK ▸ pi_enum hg hm ha hs
theorem kpi_zip (hg : Gl X "zip") (hm : X.mg "zip" = none) (ha : PA X [e, e2] ta) (hs : starEach [e, e2] X.env = (false, eval e X.env) :: starEach [e2] X.env := by rfl) (hpl : (backTo pos (starEach [e2] X.env)).any (·.1) = false := by rfl) (hK : X.K = K := by rfl) :
    PI X (.Tuple elts kk tpos) (.Call (.Name "zip" p) [e, e2] [] pos) (iZip K ta) := hK ▸ pi_zip hg hm ha hs hpl
theorem kpg_tup {t : TGs} (hc : X.calm = true) (h : PGs X es t) (hn : (assignEach es X.env).length = n := by rfl) (hst : (assignEach es X.env).findIdx? (·.1) = none := by rfl) (hK : X.K = K := by rfl) : PG X (.Tuple es kk pos) (gTup K n t) := hK ▸ pg_tup hc h hn hst
theorem k_revL {p1 p2 p3 : Pos} (he : PE X e tl) (hK : X.K = K := by rfl) : PE X (.Subscript e (.Slice none none (some (.UnaryOp .USub (.Constant (.int 1) kk p1) p2)) p3) pos) (tRevL K tl) := hK ▸ pe_revL he
def tTru (K : PySem.W.Frag) (ta : TE) : TT := fun σ H Q => ta σ H fun x H' => ∃ k, TruV K x H' k ∧ Q k H'
theorem kpt_truth (ha : PE X e tl) (he : ∀ whole, isTrue e X.env whole = (do let v ← whole; standAt e.pos; holding [v] (truthy v)) := by intro _; rfl) (hK : X.K = K := by rfl) : PT X e (tTru K tl) := hK ▸ pt_truth ha he
end
/-! names that hold a list of one's own -/
def gO (i : Nat) : TG := gName i
section
variable {X : Cx}
theorem ps_setO {i : Nat} {x : Str} {e : Expr} {te : TE} {pos' pos : Pos} (hN : X.N.Nodup) (hi : X.N[i]? = some x) (hx : Loc X.env.scope x) (he : PE X e te) (hs : swapsWith e (some (.Name x pos')) pos.line X.env = pure false := by rfl) (hf : X.fn x = true ∨ X.env.scope.names.lookup x = some .local := by first | exact .inl rfl | exact .inr rfl | assumption) :
    PS X (.Assign [.Name x pos'] e pos) (tAsg te (gO i)) := ps_set hN hi hx he hs hf
theorem ps_setLcO {i : Nat} {y : Str} {py : Pos} {elt tg iter : Expr} {ifs : List Expr} {scope : Scope} {own : List (Str × Nat)} {pos spos : Pos} {wi : TI} {g : TG} {tt : TT} {te : TE} (hc : X.calm = true) (hN : X.N.Nodup) (hy : X.N[i]? = some y) (hyl : X.env.scope.names.lookup y = some .local)
    (hsw : swapsWith (.ListComp elt [⟨tg, iter, ifs, 0⟩] scope pos) (some (.Name y py)) spos.line X.env = pure true) (hi : PI X tg iter wi) (ok : BlkOk X.N X.env.scope scope own)
    (hg : ∀ (s : Shared) (H : Hp) (C : Addr) (cl : List (Str × Addr)) (fp : List Addr), PG (X.blk s H scope (compEnvC scope cl C X.env) fp) tg g) (ht : ∀ (s : Shared) (H : Hp) (C : Addr) (cl : List (Str × Addr)) (fp : List Addr), PTs (X.blk s H scope (compEnvC scope cl C X.env) fp) ifs tt)
    (he : ∀ (s : Shared) (H : Hp) (C : Addr) (cl : List (Str × Addr)) (fp : List Addr), PE (X.blk s H scope (compEnvC scope cl C X.env) fp) elt te) (hs : ∀ x, foldedSetIterable iter X.env x = pure x := by intro _; rfl) :
    PS X (.Assign [.Name y py] (.ListComp elt [⟨tg, iter, ifs, 0⟩] scope pos) spos) (tAsg (tLc wi g tt te (own.map (·.2))) (gO i)) := ps_setLc hc hN hy hyl hsw hi ok hg ht he hs
theorem sc_asgO {K : PySem.W.Frag} {E : L2.St → XK} {te : TE} {Γ : Ctx} {P : Po} {i : Nat} (h : EN K E te Γ (fun ds => P.nx (Γ.set i (.own ds))) (P.kx Γ)) : SC K E (tAsg te (gO i)) Γ P := sc_asgNew h
end
theorem rd_mulW {K : PySem.W.Frag} {k : D → Prop} {i j : Int} (h : CMulW i j) (hk : k (.int (i * j))) : RD K (rI CMulW fun i j => .int (i * j)) (.int i) (.int j) k := rd_intC h hk
theorem mulW_of {i j : Int} (h1 : -(10 ^ 200) < i ∧ i < 10 ^ 200) (h2 : -(10 ^ 200) < j ∧ j < 10 ^ 200) : CMulW i j := by
  have e : (10 : Nat) ^ 200 < 2 ^ 700 := by decide +kernel
  have key : ∀ {x : Int}, -(10 ^ 200) < x ∧ x < 10 ^ 200 → x.natAbs < 2 ^ 700 := fun {x} h => by
    have h3 : x.natAbs < 10 ^ 200 := by omega
    exact Nat.lt_trans h3 e
  exact wide_mul (key h1) (key h2) (by decide) (by decide) (by decide)
end Z
namespace Z
open PySem PySem.Spec PyProof.Rows L2
/-! ### == of lists of ints -/
theorem pys_ints : ∀ ns : List Int, D.pys (ns.map D.int) = ns.map PyData.int
  | [] => by unfold D.pys; rfl
  | n :: ns => by
    rw [List.map_cons, D.pys, pys_ints ns, D.py]
    rfl
theorem pls_ints : ∀ ns : List Int, D.pls (ns.map D.int) = true
  | [] => by unfold D.pls; rfl
  | n :: ns => by
    rw [List.map_cons, D.pls, pls_ints ns, D.pl]
    rfl
theorem canAll_ints : ∀ ns : List Int, PyData.canLayAll0 (ns.map PyData.int) = true
  | [] => rfl
  | n :: ns => by
    rw [List.map_cons, PyData.canLayAll0, canAll_ints ns]
    rfl
theorem depth_ints : ∀ ns : List Int, PyData.depthAll (ns.map PyData.int) = 0
  | [] => rfl
  | n :: ns => by
    rw [List.map_cons, PyData.depthAll, depth_ints ns]
    rfl
theorem eqvAll_ints : ∀ ns ms : List Int, PyData.eqvAll (ns.map PyData.int) (ms.map PyData.int) = decide (ns = ms)
  | [], [] => rfl
  | [], m :: ms => by
    rw [List.map_cons, List.map_nil, PyData.eqvAll]
    simp
  | n :: ns, [] => by
    rw [List.map_cons, List.map_nil, PyData.eqvAll]
    simp
  | n :: ns, m :: ms => by
    rw [List.map_cons, List.map_cons, PyData.eqvAll, eqvAll_ints ns ms, PyData.eqv]
    by_cases h1 : n = m
    · subst h1
      by_cases h2 : ns = ms
      · subst h2
        simp
      · simp [h2]
    · simp [h1]
theorem shaped_iL (ns : List Int) : SeqAt.shaped (D.lst (ns.map D.int)).py = true := by
  rw [D.py, pys_ints]
  unfold SeqAt.shaped
  rw [PyData.canLay0, canAll_ints, PyData.depth, depth_ints]
  rfl
theorem shaped_int (i : Int) : SeqAt.shaped (D.int i).py = true := by
  rw [D.py]
  rfl
theorem shaped_non : SeqAt.shaped D.non.py = true := by
  rw [D.py]
  rfl
theorem eqv_iL (ns ms : List Int) : PyData.eqv (D.lst (ns.map D.int)).py (D.lst (ms.map D.int)).py = decide (ns = ms) := by
  rw [D.py, D.py, pys_ints, pys_ints, PyData.eqv, eqvAll_ints]
theorem eqv_int (i j : Int) : PyData.eqv (D.int i).py (D.int j).py = decide (i = j) := by
  rw [D.py, D.py, PyData.eqv]
  by_cases h : i = j <;> simp [h]
section
variable {K : PySem.W.Frag} {E : L2.St → XK} {te ta tb : TE} {tt : TT} {Γ : Ctx} {k : D → Prop} {kx : Addr → D → Prop} {kl : List D → Prop} {vs : List Nat}
theorem rd_eqD {x y : D} (h : x.pl = true ∧ y.pl = true ∧ SeqAt.shaped x.py = true ∧ SeqAt.shaped y.py = true ∧ k (.bl (PyData.eqv x.py y.py))) : RD K (rEqD K) x y k := fun S Q v w ok r1 r2 q =>
  ⟨x.py, y.py, Rp.dp ok h.1 r1, Rp.dp ok h.2.1 r2, h.2.2.1, h.2.2.2.1, q S _ _ (Gr.refl ok) rpb h.2.2.2.2⟩
theorem rd_neD {x y : D} (h : x.pl = true ∧ y.pl = true ∧ SeqAt.shaped x.py = true ∧ SeqAt.shaped y.py = true ∧ k (.bl (!PyData.eqv x.py y.py))) : RD K (rNeD K) x y k := fun S Q v w ok r1 r2 q =>
  ⟨x.py, y.py, Rp.dp ok h.1 r1, Rp.dp ok h.2.1 r2, h.2.2.1, h.2.2.2.1, q S _ _ (Gr.refl ok) rpb h.2.2.2.2⟩
theorem pl_iL (ns : List Int) : (D.lst (ns.map D.int)).pl = true := by rw [D.pl, pls_ints]
theorem pl_int (i : Int) : (D.int i).pl = true := by rw [D.pl]
theorem rd_eqL {ns ms : List Int} (hk : k (.bl (decide (ns = ms)))) : RD K (rEqD K) (.lst (ns.map D.int)) (.lst (ms.map D.int)) k := rd_eqD ⟨pl_iL _, pl_iL _, shaped_iL _, shaped_iL _, by rw [eqv_iL]; exact hk⟩
theorem rd_neL {ns ms : List Int} (hk : k (.bl (!decide (ns = ms)))) : RD K (rNeD K) (.lst (ns.map D.int)) (.lst (ms.map D.int)) k := rd_neD ⟨pl_iL _, pl_iL _, shaped_iL _, shaped_iL _, by rw [eqv_iL]; exact hk⟩
theorem rd_eqDI {i j : Int} (hk : k (.bl (decide (i = j)))) : RD K (rEqD K) (.int i) (.int j) k := rd_eqD ⟨pl_int _, pl_int _, shaped_int _, shaped_int _, by rw [eqv_int]; exact hk⟩
theorem rd_neDI {i j : Int} (hk : k (.bl (!decide (i = j)))) : RD K (rNeD K) (.int i) (.int j) k := rd_neD ⟨pl_int _, pl_int _, shaped_int _, shaped_int _, by rw [eqv_int]; exact hk⟩
/-- == of a list of one's own with data -/
theorem ec_eqLL (h : EL K E ta Γ (fun ds => EL K E tb Γ (fun es => ∃ ns ms : List Int, ds = ns.map D.int ∧ es = ms.map D.int ∧ k (.bl (decide (ns = ms)))) kx) kx) : EC K E (tOp (rEqD K) ta tb) Γ k kx := fun S0 S σ Q e q x =>
  h S0 S σ _ e (fun T p xs ds g hp hm r h2 => h2 S0 T σ _ (e.gr g) (fun U p2 ys es g2 hp2 hm2 r2 ⟨ns, ms, e1, e2, kd⟩ => by
    subst e1 e2
    have hp' := g2.hp _ _ hp hm
    rw [r.ints] at hp'
    rw [r2.ints] at hp2
    have dp : ∀ (a : Addr) (l : List Int), U.H a = some (.lst (l.map V.int)) → Dp K U.H (.ref a) (D.lst (l.map D.int)).py := fun a l ha => by
      rw [D.py]
      exact .lst (SqL.of ha) (RpL.dp (S := U) g2.ok (pls_ints l) (RpL.of_ints l))
    exact ⟨_, _, dp _ _ hp', dp _ _ hp2, shaped_iL _, shaped_iL _, by rw [eqv_iL]; exact q U _ _ (g.trans g2) rpb kd⟩) (x.gr g)) x
theorem ec_neLL (h : EL K E ta Γ (fun ds => EL K E tb Γ (fun es => ∃ ns ms : List Int, ds = ns.map D.int ∧ es = ms.map D.int ∧ k (.bl (!decide (ns = ms)))) kx) kx) : EC K E (tOp (rNeD K) ta tb) Γ k kx := fun S0 S σ Q e q x =>
  h S0 S σ _ e (fun T p xs ds g hp hm r h2 => h2 S0 T σ _ (e.gr g) (fun U p2 ys es g2 hp2 hm2 r2 ⟨ns, ms, e1, e2, kd⟩ => by
    subst e1 e2
    have hp' := g2.hp _ _ hp hm
    rw [r.ints] at hp'
    rw [r2.ints] at hp2
    have dp : ∀ (a : Addr) (l : List Int), U.H a = some (.lst (l.map V.int)) → Dp K U.H (.ref a) (D.lst (l.map D.int)).py := fun a l ha => by
      rw [D.py]
      exact .lst (SqL.of ha) (RpL.dp (S := U) g2.ok (pls_ints l) (RpL.of_ints l))
    exact ⟨_, _, dp _ _ hp', dp _ _ hp2, shaped_iL _, shaped_iL _, by rw [eqv_iL]; exact q U _ _ (g.trans g2) rpb kd⟩) (x.gr g)) x
/-- a comprehension whose elements are known by what is true of them -/
theorem en_lcR {wi : TI} {g : TG} (h : EI K E wi Γ (fun ds => ds.length ≤ 1000000 ∧ ∃ R : D → Prop, (∀ d ∈ ds, GW K vs g d (wipeC Γ vs) fun Δ => EC K ES0 te Δ R F0) ∧ ∀ acc : List D, acc.length = ds.length → (∀ d ∈ acc, R d) → kl acc) kx) : EN K E (tLc wi g tYes te vs) Γ kl kx := by
  refine en_lcI (EI.mono h ?_)
  rintro ds ⟨hz, R, hs, hk⟩
  refine ⟨hz, fun i acc => acc.length = i ∧ ∀ d ∈ acc, R d, ⟨rfl, fun _ h => nomatch h⟩, ?_, fun acc ea => hk acc ea.1 ea.2⟩
  rintro i d acc ed ⟨ha, hR⟩ _ S0 S σ v Q e r q
  refine hs d (List.mem_of_getElem? ed) S0 S σ v Q e r fun τ Δ hw e2 h2 => q τ Δ hw e2 (et_yes ?_)
  show EC K ES0 te Δ _ F0
  refine h2.mono fun y hy => ⟨by rw [List.length_append, ha]; rfl, fun z hz => ?_⟩
  rcases List.mem_append.mp hz with h | h
  · exact hR z h
  · rw [List.mem_singleton] at h
    rw [h]
    exact hy
end
/-! ### the draws of every law -/
def wpPool : WPN := fun ds q _ => ∃ (ns : List Int) (n : Int), ds = [.scr ns, .int n] ∧ (0 ≤ n ∧ n < 1000) ∧ ∀ x y : Int, 0 ≤ y → y < 4294967296 → q [.int x, .int y]
def wpTake : WP := fun ds q _ => ∃ n : Int, ds = [.pool, .int n] ∧ (0 < n ∧ n < 10 ^ 250) ∧ ∀ r : Int, 0 ≤ r → r < n → q (.int r)
theorem take_ok {n : Int} {q : D → Prop} {kx : Addr → D → Prop} (h0 : 0 < n) (h1 : n < 10 ^ 250) (h : ∀ r : Int, 0 ≤ r → r < n → q (.int r)) : wpTake [.pool, .int n] q kx := ⟨n, rfl, ⟨h0, h1⟩, h⟩
@[reducible] def D.isN : D → Option Bool
  | .non => some true
  | .val _ => none
  | .any => none
  | _ => some false
theorem ec_isN2 {K : PySem.W.Frag} {E : L2.St → XK} {ta : TE} {Γ : Ctx} {k : D → Prop} {kx : Addr → D → Prop} (h : EC K E ta Γ (fun x => ∃ b, x.isN = some b ∧ k (.bl b)) kx) : EC K E (tIsN ta) Γ k kx := by
  refine ec_isN (h.mono ?_)
  rintro x ⟨b, e, hk⟩
  cases x <;> first | (cases e; exact ⟨hk, trivial⟩) | cases e
theorem ec_notN2 {K : PySem.W.Frag} {E : L2.St → XK} {ta : TE} {Γ : Ctx} {k : D → Prop} {kx : Addr → D → Prop} (h : EC K E ta Γ (fun x => ∃ b, x.isN = some b ∧ k (.bl (!b))) kx) : EC K E (tNotN ta) Γ k kx := fun S0 S σ Q e q x =>
  h S0 S σ _ e (fun T v d g r ⟨b, ed, kd⟩ => by
    have key : decide (v = V.non) = b := by
      cases d <;> unfold Rp at r <;> first
        | (cases ed; subst r; rfl)
        | (cases ed; obtain ⟨_, _, r, _⟩ := r; subst r; rfl)
        | (cases ed; obtain ⟨_, r, _⟩ := r; subst r; rfl)
        | (cases ed; obtain ⟨_, _, _, r, _⟩ := r; subst r; rfl)
        | (cases ed; obtain ⟨r, _⟩ := r; subst r; rfl)
        | cases ed
    show Q (.bl (!decide (v = V.non))) T.H
    rw [key]
    exact q T _ _ g rpb kd) x
end Z
namespace Z
open PySem PySem.Spec PyProof.Rows L2
/-! ### data that may be compared, to a depth -/
structure Nice (n : Nat) (d : D) : Prop where
  pl : d.pl = true
  can : d.py.canLay0 = true
  dep : d.py.depth ≤ n
theorem Nice.shaped {n : Nat} {d : D} (h : Nice n d) (hn : n ≤ 64) : SeqAt.shaped d.py = true := by
  unfold SeqAt.shaped
  rw [h.can, decide_eq_true (Nat.le_trans h.dep hn)]
  rfl
theorem nice_int {n : Nat} (i : Int) : Nice n (.int i) := ⟨by rw [D.pl], by rw [D.py]; rfl, by rw [D.py]; exact Nat.zero_le _⟩
theorem nice_non {n : Nat} : Nice n .non := ⟨by rw [D.pl], by rw [D.py]; rfl, by rw [D.py]; exact Nat.zero_le _⟩
theorem nice_bl {n : Nat} (b : Bool) : Nice n (.bl b) := ⟨by rw [D.pl], by rw [D.py]; rfl, by rw [D.py]; exact Nat.zero_le _⟩
theorem nice_all {n : Nat} : ∀ {ds : List D}, (∀ d ∈ ds, Nice n d) → D.pls ds = true ∧ PyData.canLayAll0 (D.pys ds) = true ∧ PyData.depthAll (D.pys ds) ≤ n
  | [], _ => ⟨by rw [D.pls], by rw [D.pys]; rfl, by rw [D.pys]; exact Nat.zero_le _⟩
  | d :: ds, h => by
    have h1 := h d List.mem_cons_self
    obtain ⟨a, b, c⟩ := nice_all (ds := ds) fun e he => h e (List.mem_cons_of_mem _ he)
    refine ⟨?_, ?_, ?_⟩
    · rw [D.pls, h1.pl, a]
      rfl
    · rw [D.pys, PyData.canLayAll0, h1.can, b]
      rfl
    · rw [D.pys, PyData.depthAll]
      exact Nat.max_le.mpr ⟨h1.dep, c⟩
theorem nice_lst {n : Nat} {ds : List D} (h : ∀ d ∈ ds, Nice n d) : Nice (n + 1) (.lst ds) := by
  obtain ⟨a, b, c⟩ := nice_all h
  refine ⟨by rw [D.pl, a], by rw [D.py, PyData.canLay0, b], ?_⟩
  rw [D.py, PyData.depth]
  omega
theorem nice_tup {n : Nat} {ds : List D} (h : ∀ d ∈ ds, Nice n d) : Nice (n + 1) (.tup ds) := by
  obtain ⟨a, b, c⟩ := nice_all h
  refine ⟨by rw [D.pl, a], by rw [D.py, PyData.canLay0, b], ?_⟩
  rw [D.py, PyData.depth]
  omega
theorem nice_iL {n : Nat} (ns : List Int) : Nice (n + 1) (.lst (ns.map D.int)) := nice_lst fun d hd => by
  obtain ⟨i, _, rfl⟩ := List.mem_map.mp hd
  exact nice_int i
theorem nice_two {n : Nat} {a b : D} (ha : Nice n a) (hb : Nice n b) : ∀ d ∈ [a, b], Nice n d := fun d hd => by
  rcases List.mem_cons.mp hd with e | hd
  · rw [e]; exact ha
  · rw [List.mem_singleton.mp hd]; exact hb
theorem Nice.refl {n : Nat} {d : D} (h : Nice n d) : PyData.eqv d.py d.py = true := SeqAt.eqv_refl d.py h.can
section
variable {K : PySem.W.Frag} {k : D → Prop}
/-- != of equal data -/
theorem rd_neSame {x y : D} {n : Nat} (e : x = y) (h : Nice n x) (hn : n ≤ 64) (hk : k (.bl false)) : RD K (rNeD K) x y k := by
  subst e
  exact rd_neD ⟨h.pl, h.pl, h.shaped hn, h.shaped hn, by rw [h.refl]; exact hk⟩
theorem rd_eqSame {x y : D} {n : Nat} (e : x = y) (h : Nice n x) (hn : n ≤ 64) (hk : k (.bl true)) : RD K (rEqD K) x y k := by
  subst e
  exact rd_eqD ⟨h.pl, h.pl, h.shaped hn, h.shaped hn, by rw [h.refl]; exact hk⟩
theorem dec_vb {i j : Bool} : decide (V.bl i = V.bl j) = decide (i = j) := by
  by_cases h : i = j
  · subst h
    simp
  · rw [decide_eq_false h]
    exact decide_eq_false fun z => h (V.bl.inj z)
theorem rd_eqB {i j : Bool} (hk : k (.bl (decide (i = j)))) : RD K rEq (.bl i) (.bl j) k := fun S Q v w ok r1 r2 q => by
  unfold Rp at r1 r2
  rw [r1, r2]
  exact ⟨rfl, by rw [dec_vb]; exact q S _ _ (Gr.refl ok) (by unfold Rp; rfl) hk⟩
theorem rd_neB {i j : Bool} (hk : k (.bl (!decide (i = j)))) : RD K rNe (.bl i) (.bl j) k := fun S Q v w ok r1 r2 q => by
  unfold Rp at r1 r2
  rw [r1, r2]
  exact ⟨rfl, by rw [dec_vb]; exact q S _ _ (Gr.refl ok) (by unfold Rp; rfl) hk⟩
theorem cut_init {α : Type} (xs : List α) : cut xs none (some (-1)) = xs.dropLast := by
  have h := cut_butlast xs 0
  rw [List.drop_zero] at h
  rw [← h]
  unfold cut
  rw [HT.sIx_none, HT.sIx_nat, Nat.zero_min]
end
end Z
namespace L2
open PySem PySem.Spec PyProof.Rows
/-! ### pairs of ints: min, max, sorted -/
section
variable {X : Cx}
def rMinP (K : PySem.W.Frag) : List V → Hp → VK → Prop := fun vs H Q => ∃ (a : Addr) (i j : Int), vs = [V.ref a] ∧ SqT K H a [.int i, .int j] ∧ Q (.int (min i j)) H
def rMaxP (K : PySem.W.Frag) : List V → Hp → VK → Prop := fun vs H Q => ∃ (a : Addr) (i j : Int), vs = [V.ref a] ∧ SqT K H a [.int i, .int j] ∧ Q (.int (max i j)) H
theorem alike_ints (i j : Int) : PySem.W.AlikeAll [PyData.int i, PyData.int j] := by
  refine ⟨fun x hx y hy => ?_, fun x hx => ?_⟩
  · simp only [List.mem_cons, List.not_mem_nil, or_false] at hx hy
    rcases hx with rfl | rfl <;> rcases hy with rfl | rfl <;> rfl
  · simp only [List.mem_cons, List.not_mem_nil, or_false] at hx
    rcases hx with rfl | rfl <;> exact fun z => nomatch z
theorem cr_minP (hc : X.calm = true) (hu : X.A.units + 65 < cLine) : CallR X (.builtin "min") (rMinP X.K) := by
  intro pins s σ H vs us Q I r h
  obtain ⟨a, i, j, rfl, hs, q⟩ := h
  obtain ⟨its, rv, hl, _⟩ := I.tuple hs
  rw [Vals.ref1 r]
  obtain ⟨u1, u2, rfl, ri, rj⟩ := vals2 rv
  obtain ⟨t1, rfl⟩ := ri
  obtain ⟨t2, rfl⟩ := rj
  refine PySem.W.min_tuple_data (x := .int i) (xs := [.int j]) (I.ok.hd hc) hl (.cons (.int i t1) (.cons (.int j t2) .nil)) (alike_ints i j) (Nat.lt_of_le_of_lt (Nat.add_le_add_left (Nat.zero_le 64 : PyData.depthAll [PyData.int i, PyData.int j] ≤ 64) _) hu) fun n v h' tk bs hv hr hk => ?_
  have e : PySem.W.minD (.int i) [.int j] = .int (min i j) := PySem.W.minD_ints i [j]
  rw [e] at hr
  cases hr with
  | int _ t => exact ⟨.int _, H, I.kept hk, ⟨_, rfl⟩, q⟩
theorem cr_maxP (hc : X.calm = true) (hu : X.A.units + 65 < cLine) : CallR X (.builtin "max") (rMaxP X.K) := by
  intro pins s σ H vs us Q I r h
  obtain ⟨a, i, j, rfl, hs, q⟩ := h
  obtain ⟨its, rv, hl, _⟩ := I.tuple hs
  rw [Vals.ref1 r]
  obtain ⟨u1, u2, rfl, ri, rj⟩ := vals2 rv
  obtain ⟨t1, rfl⟩ := ri
  obtain ⟨t2, rfl⟩ := rj
  refine PySem.W.max_tuple_data (x := .int i) (xs := [.int j]) (I.ok.hd hc) hl (.cons (.int i t1) (.cons (.int j t2) .nil)) (alike_ints i j) (Nat.lt_of_le_of_lt (Nat.add_le_add_left (Nat.zero_le 64 : PyData.depthAll [PyData.int i, PyData.int j] ≤ 64) _) hu) fun n v h' tk bs hv hr hk => ?_
  have e : PySem.W.maxD (.int i) [.int j] = .int (max i j) := PySem.W.maxD_ints i [j]
  rw [e] at hr
  cases hr with
  | int _ t => exact ⟨.int _, H, I.kept hk, ⟨_, rfl⟩, q⟩
/-- sorted(xs), xs a list of pairs of ints -/
def rSortedPS (K : PySem.W.Frag) : List V → Hp → VK → Prop := fun vs H Q => ∃ (a : Addr) (zs : List (V × (Int × Int))), vs = [V.ref a] ∧ SqL K H a (zs.map (·.1)) ∧ (∀ z ∈ zs, ∃ t, z.1 = V.ref t ∧ SqT K H t [.int z.2.1, .int z.2.2]) ∧
  ∀ (ys : List (V × (Int × Int))) p, ys.Perm zs → (ys.map (·.2)).Pairwise (fun x y => SrtO.lexB y x = false) → H p = none → Q (.ref p) (upd H p (.lst (ys.map (·.1))))
theorem isPair_inj {h : Heap} {v : Value} {x y x' y' : Int} (a : Srt.IsPair h v x y) (b : Srt.IsPair h v x' y') : x = x' ∧ y = y' := by
  obtain ⟨p, o, t, u, n, rfl, e1, _, d1⟩ := a
  obtain ⟨p', o', t', u', n', e, e2, _, d2⟩ := b
  cases e
  rw [e1] at e2
  cases e2
  rw [d1] at d2
  injection d2 with d2 _
  simp at d2
  exact ⟨d2.1.1, d2.2.1⟩
open Classical in
noncomputable def pairOf (h : Heap) (v : Value) : Int × Int := if e : ∃ p : Int × Int, Srt.IsPair h v p.1 p.2 then e.choose else (0, 0)
theorem pairOf_eq {h : Heap} {v : Value} {x y : Int} (a : Srt.IsPair h v x y) : pairOf h v = (x, y) := by
  have e : ∃ p : Int × Int, Srt.IsPair h v p.1 p.2 := ⟨(x, y), a⟩
  unfold pairOf
  rw [dif_pos e]
  have := isPair_inj e.choose_spec a
  exact Prod.ext this.1 this.2
theorem cr_sortedPS : CallR X (.builtin "sorted") (rSortedPS X.K) := by
  intro pins s σ H vs us Q I r h
  obtain ⟨a, zs, rfl, hs, hx, q⟩ := h
  obtain ⟨its, rv, hl, hz⟩ := I.list hs
  obtain ⟨u, rfl, ru⟩ := vals1 r
  obtain rfl : u = Value.ref a := ru
  obtain ⟨e1, e2⟩ := refs_back rv fun x m => by
    obtain ⟨z, hz, rfl⟩ := List.mem_map.mp m
    obtain ⟨t, e, _⟩ := hx z hz
    exact ⟨t, e⟩
  have hpair : ∀ z ∈ zs, ∃ t, z.1 = V.ref t ∧ Srt.IsPair s.heap (.ref t) z.2.1 z.2.2 := fun z hz => by
    obtain ⟨t, e, ht⟩ := hx z hz
    obtain ⟨its2, r2, ⟨o, ho, hc, n, hd⟩, _⟩ := I.tuple ht
    obtain ⟨u1, u2, rfl, ri, rj⟩ := vals2 r2
    obtain ⟨t1, rfl⟩ := ri
    obtain ⟨t2, rfl⟩ := rj
    exact ⟨t, e, t, o, t1, t2, n, rfl, ho, hc, hd⟩
  have ez : zs = its.map fun u => (backV u, pairOf s.heap u) := by
    have key : ∀ (zs : List (V × (Int × Int))) (its : List Value), zs.map (·.1) = its.map backV → (∀ v ∈ its, ∃ a, v = Value.ref a) → (∀ z ∈ zs, ∃ t, z.1 = V.ref t ∧ Srt.IsPair s.heap (.ref t) z.2.1 z.2.2) → zs = its.map fun u => (backV u, pairOf s.heap u) := by
      intro zs
      induction zs with
      | nil =>
        intro its e _ _
        cases its with
        | nil => rfl
        | cons u r => cases e
      | cons z zs ih =>
        intro its e h2 h3
        cases its with
        | nil => cases e
        | cons u r =>
          rw [List.map_cons, List.map_cons] at e
          injection e with ea eb
          rw [List.map_cons, ← ih r eb (fun v hv => h2 v (List.mem_cons_of_mem _ hv)) fun z hz => h3 z (List.mem_cons_of_mem _ hz)]
          obtain ⟨p, rfl⟩ := h2 u List.mem_cons_self
          obtain ⟨t, et, hp⟩ := h3 z List.mem_cons_self
          rw [et] at ea
          have : t = p := by
            have := V.ref.inj (show V.ref t = V.ref p from ea)
            exact this
          subst this
          rw [pairOf_eq hp]
          congr 1
          obtain ⟨z1, z2, z3⟩ := z
          simp only at et ⊢
          rw [et]
          rfl
    exact key zs its e1 e2 hpair
  refine SrtO.sorted_pairsO (k := pairOf s.heap) hl.isList (by rw [← rv.length]; exact hz) (fun v hv => ?_) fun h' d out h1 h2 kp hd hn => ?_
  · have hm : (backV v, pairOf s.heap v) ∈ zs := by rw [ez]; exact List.mem_map.mpr ⟨_, hv, rfl⟩
    obtain ⟨t, e, hp⟩ := hpair _ hm
    obtain ⟨p, rfl⟩ := e2 v hv
    have : p = t := V.ref.inj (show V.ref p = V.ref t from e)
    subst this
    exact hp
  · have h3 : ∀ u ∈ out, ∃ a, u = Value.ref a := fun u hu => e2 u (h2.perm.mem_iff.mp hu)
    obtain ⟨n, hn⟩ := hn
    have em : (out.map fun u => (backV u, pairOf s.heap u)).map (·.1) = out.map backV := by rw [List.map_map]; rfl
    have em2 : (out.map fun u => (backV u, pairOf s.heap u)).map (·.2) = out.map (pairOf s.heap) := by rw [List.map_map]; rfl
    have hq := q (out.map fun u => (backV u, pairOf s.heap u)) d (by rw [ez]; exact h2.perm.map _) (by rw [em2]; exact List.pairwise_map.mpr h1) (I.hok.fresh hd)
    rw [em] at hq
    refine ⟨.ref d, upd H d (.lst (out.map backV)), I.laid (t' := s.toks) kp hd ⟨?_, out, n, vals_back h3, hn⟩, rfl, hq⟩
    rw [List.length_map, h2.perm.length_eq]
    have := rv.length
    omega
end
end L2
namespace Z
open PySem PySem.Spec PyProof.Rows L2
/-! ### data whose == is equality -/
mutual
def D.pu : D → Bool
  | .non => true
  | .int _ => true
  | .str _ => true
  | .lst ds => D.pus ds
  | .tup ds => D.pus ds
  | _ => false
def D.pus : List D → Bool
  | [] => true
  | d :: ds => d.pu && D.pus ds
end
theorem pus_iff : ∀ {ds : List D}, D.pus ds = true ↔ ∀ d ∈ ds, d.pu = true
  | [] => by unfold D.pus; simp
  | d :: ds => by
    unfold D.pus
    rw [Bool.and_eq_true, pus_iff (ds := ds)]
    simp
mutual
theorem eqv_pu : ∀ {x y : D}, x.pu = true → y.pu = true → (PyData.eqv x.py y.py = true ↔ x = y)
  | .non, y, hx, hy => by cases y <;> simp_all [D.pu, D.py, PyData.eqv]
  | .int i, y, hx, hy => by cases y <;> simp_all [D.pu, D.py, PyData.eqv]
  | .str i, y, hx, hy => by cases y <;> simp_all [D.pu, D.py, PyData.eqv]
  | .lst ds, y, hx, hy => by
    cases y with
    | lst es =>
      unfold D.pu at hx hy
      unfold D.py PyData.eqv
      rw [eqvs_pu hx hy]
      simp
    | _ => simp_all [D.pu, D.py, PyData.eqv]
  | .tup ds, y, hx, hy => by
    cases y with
    | tup es =>
      unfold D.pu at hx hy
      unfold D.py PyData.eqv
      rw [eqvs_pu hx hy]
      simp
    | _ => simp_all [D.pu, D.py, PyData.eqv]
  | .bl _, y, hx, hy => by simp [D.pu] at hx
  | .scr _, y, hx, hy => by simp [D.pu] at hx
  | .pool, y, hx, hy => by simp [D.pu] at hx
  | .any, y, hx, hy => by simp [D.pu] at hx
  | .val _, y, hx, hy => by simp [D.pu] at hx
  | .ins _ _ _, y, hx, hy => by simp [D.pu] at hx
  | .dic _ _ _, y, hx, hy => by simp [D.pu] at hx
  | .memo _, y, hx, hy => by simp [D.pu] at hx
  | .tab _, y, hx, hy => by simp [D.pu] at hx
  | .exc _ _ _, y, hx, hy => by simp [D.pu] at hx
theorem eqvs_pu : ∀ {xs ys : List D}, D.pus xs = true → D.pus ys = true → (PyData.eqvAll (D.pys xs) (D.pys ys) = true ↔ xs = ys)
  | [], ys, hx, hy => by
    cases ys with
    | nil => simp [D.pys, PyData.eqvAll]
    | cons y ys => simp [D.pys, PyData.eqvAll]
  | x :: xs, ys, hx, hy => by
    cases ys with
    | nil => simp [D.pys, PyData.eqvAll]
    | cons y ys =>
      unfold D.pus at hx hy
      rw [Bool.and_eq_true] at hx hy
      unfold D.pys PyData.eqvAll
      rw [Bool.and_eq_true, eqv_pu hx.1 hy.1, eqvs_pu hx.2 hy.2]
      simp
end
/-- .. and that may be compared -/
structure Pu (n : Nat) (d : D) : Prop where
  nice : Nice n d
  pu : d.pu = true
theorem pu_int {n : Nat} (i : Int) : Pu n (.int i) := ⟨nice_int i, by rw [D.pu]⟩
theorem pu_non {n : Nat} : Pu n .non := ⟨nice_non, by rw [D.pu]⟩
theorem pu_lst {n : Nat} {ds : List D} (h : ∀ d ∈ ds, Pu n d) : Pu (n + 1) (.lst ds) := ⟨nice_lst fun d hd => (h d hd).nice, by rw [D.pu]; exact pus_iff.mpr fun d hd => (h d hd).pu⟩
theorem pu_tup {n : Nat} {ds : List D} (h : ∀ d ∈ ds, Pu n d) : Pu (n + 1) (.tup ds) := ⟨nice_tup fun d hd => (h d hd).nice, by rw [D.pu]; exact pus_iff.mpr fun d hd => (h d hd).pu⟩
theorem pu_two {n : Nat} {a b : D} (ha : Pu n a) (hb : Pu n b) : ∀ d ∈ [a, b], Pu n d := fun d hd => by
  rcases List.mem_cons.mp hd with e | hd
  · rw [e]; exact ha
  · rw [List.mem_singleton.mp hd]; exact hb
theorem pu_iL {n : Nat} (ns : List Int) : Pu (n + 1) (.lst (ns.map D.int)) := pu_lst fun d hd => by
  obtain ⟨i, _, rfl⟩ := List.mem_map.mp hd
  exact pu_int i
theorem pu_map {α : Type} {n : Nat} {f : α → D} {xs : List α} (h : ∀ x ∈ xs, Pu n (f x)) : Pu (n + 1) (.lst (xs.map f)) := pu_lst fun d hd => by
  obtain ⟨i, hi, rfl⟩ := List.mem_map.mp hd
  exact h i hi
abbrev pD (p : Int × Int) : D := .tup [.int p.1, .int p.2]
theorem pu_pD {n : Nat} (p : Int × Int) : Pu (n + 1) (pD p) := pu_tup (pu_two (pu_int _) (pu_int _))
theorem pD_inj {p q : Int × Int} (h : pD p = pD q) : p = q := by
  unfold pD at h
  injection h with h
  injection h with h1 h2
  injection h2 with h2 _
  injection h1 with h1
  injection h2 with h2
  exact Prod.ext h1 h2
section
variable {K : PySem.W.Frag} {E : L2.St → XK} {S0 S T : Wd} {te ta tb tc tl : TE} {tt uu : TT} {t u : TS} {Γ : Ctx} {k k' : D → Prop} {kx : Addr → D → Prop} {P : Po} {kl : List D → Prop} {al : TA}
theorem rd_eqPu {x y : D} {n : Nat} (hx : Pu n x) (hy : Pu n y) (hn : n ≤ 64) (hk : ∀ b, (b = true ↔ x = y) → k (.bl b)) : RD K (rEqD K) x y k :=
  rd_eqD ⟨hx.nice.pl, hy.nice.pl, hx.nice.shaped hn, hy.nice.shaped hn, hk _ (eqv_pu hx.pu hy.pu)⟩
theorem rd_nePu {x y : D} {n : Nat} (hx : Pu n x) (hy : Pu n y) (hn : n ≤ 64) (hk : ∀ b, (b = true ↔ x = y) → k (.bl (!b))) : RD K (rNeD K) x y k :=
  rd_neD ⟨hx.nice.pl, hy.nice.pl, hx.nice.shaped hn, hy.nice.shaped hn, hk _ (eqv_pu hx.pu hy.pu)⟩
theorem any_pu {d : D} (hd : d.pu = true) : ∀ {es : List D}, D.pus es = true → (((D.pys es).any fun z => PyData.eqv z d.py) = true ↔ d ∈ es)
  | [], _ => by simp [D.pys]
  | e :: es, h => by
    unfold D.pus at h
    rw [Bool.and_eq_true] at h
    unfold D.pys
    rw [List.any_cons, Bool.or_eq_true, eqv_pu h.1 hd, any_pu hd h.2, List.mem_cons]
    constructor
    · rintro (h | h)
      · exact .inl h.symm
      · exact .inr h
    · rintro (h | h)
      · exact .inl h.symm
      · exact .inr h
/-- x in l -/
theorem ec_inL {n : Nat} (hn : n + 1 ≤ 64) (h : EC K E ta Γ (fun d => EL K E tb Γ (fun es => Pu n d ∧ (∀ e ∈ es, Pu n e) ∧ ∀ b, (b = true ↔ d ∈ es) → k (.bl b)) kx) kx) : EC K E (tOp (rInD K) ta tb) Γ k kx := fun S0 S σ Q e q x =>
  h S0 S σ _ e (fun T v d g r h2 => h2 S0 T σ _ (e.gr g) (fun U p xs es g2 hp hm rl ⟨hd, he, hk⟩ => by
    have hl := pu_lst he
    have hs := hl.nice.shaped hn
    rw [D.py] at hs
    have hpl := hl.nice.pl
    rw [D.pl] at hpl
    have hpu := hl.pu
    rw [D.pu] at hpu
    exact ⟨_, _, Rp.dp g2.ok hd.nice.pl (r.mono g2.le), .lst (SqL.of hp) (RpL.dp g2.ok hpl rl), hd.nice.shaped (by omega), hs, q U _ _ (g.trans g2) rpb (hk _ (any_pu hd.pu hpu))⟩) (x.gr g)) x
theorem ec_notInL {n : Nat} (hn : n + 1 ≤ 64) (h : EC K E ta Γ (fun d => EL K E tb Γ (fun es => Pu n d ∧ (∀ e ∈ es, Pu n e) ∧ ∀ b, (b = true ↔ d ∈ es) → k (.bl (!b))) kx) kx) : EC K E (tOp (rNotInD K) ta tb) Γ k kx := fun S0 S σ Q e q x =>
  h S0 S σ _ e (fun T v d g r h2 => h2 S0 T σ _ (e.gr g) (fun U p xs es g2 hp hm rl ⟨hd, he, hk⟩ => by
    have hl := pu_lst he
    have hs := hl.nice.shaped hn
    rw [D.py] at hs
    have hpl := hl.nice.pl
    rw [D.pl] at hpl
    have hpu := hl.pu
    rw [D.pu] at hpu
    exact ⟨_, _, Rp.dp g2.ok hd.nice.pl (r.mono g2.le), .lst (SqL.of hp) (RpL.dp g2.ok hpl rl), hd.nice.shaped (by omega), hs, q U _ _ (g.trans g2) rpb (hk _ (any_pu hd.pu hpu))⟩) (x.gr g)) x
/-! ### pairs -/
theorem rp_pair {p : Int × Int} {v : V} (h : Rp K S (pD p) v) : ∃ a, v = .ref a ∧ SqT K S.F a [.int p.1, .int p.2] := by
  unfold pD Rp at h
  obtain ⟨a, xs, rfl, f, r⟩ := h
  obtain ⟨y, ys, rfl, r1, r2⟩ := r.cons_inv
  obtain ⟨z, zs, rfl, r3, r4⟩ := r2.cons_inv
  cases r4.nil_inv
  rw [r1.int, r3.int] at f
  exact ⟨a, rfl, f⟩
theorem ec_minP (h : EC K E ta Γ (fun d => ∃ p : Int × Int, d = pD p ∧ k (.int (min p.1 p.2))) kx) : EC K E (tCB (rMinP K) (tCons ta tNil)) Γ k kx := by
  refine ec_cb (ea_cons (h.mono fun d ⟨p, e, hk⟩ => ea_nil ?_))
  subst e
  intro S Q vs ok r q
  obtain ⟨y, ys, rfl, r1, r2⟩ := r.cons_inv
  cases r2.nil_inv
  obtain ⟨a, rfl, f⟩ := rp_pair r1
  exact ⟨a, p.1, p.2, rfl, sqt_mono ok.sub f, q S _ _ (Gr.refl ok) rpi hk⟩
theorem ec_maxP (h : EC K E ta Γ (fun d => ∃ p : Int × Int, d = pD p ∧ k (.int (max p.1 p.2))) kx) : EC K E (tCB (rMaxP K) (tCons ta tNil)) Γ k kx := by
  refine ec_cb (ea_cons (h.mono fun d ⟨p, e, hk⟩ => ea_nil ?_))
  subst e
  intro S Q vs ok r q
  obtain ⟨y, ys, rfl, r1, r2⟩ := r.cons_inv
  cases r2.nil_inv
  obtain ⟨a, rfl, f⟩ := rp_pair r1
  exact ⟨a, p.1, p.2, rfl, sqt_mono ok.sub f, q S _ _ (Gr.refl ok) rpi hk⟩
theorem rpl_zip {α : Type} {f : α → D} : ∀ {ps : List α} {xs : List V}, RpL K S (ps.map f) xs → ∃ zs : List (V × α), zs.map (·.1) = xs ∧ zs.map (·.2) = ps ∧ ∀ z ∈ zs, Rp K S (f z.2) z.1
  | [], _, h => by
    rw [List.map_nil] at h
    exact ⟨[], h.nil_inv.symm, rfl, fun _ h => nomatch h⟩
  | p :: ps, _, h => by
    rw [List.map_cons] at h
    obtain ⟨y, ys, rfl, r, t⟩ := h.cons_inv
    obtain ⟨zs, e1, e2, h3⟩ := rpl_zip t
    refine ⟨(y, p) :: zs, by rw [List.map_cons, e1], by rw [List.map_cons, e2], fun z hz => ?_⟩
    rcases List.mem_cons.mp hz with e | hz
    · rw [e]; exact r
    · exact h3 z hz
theorem rpl_unzip {α : Type} {f : α → D} : ∀ {zs : List (V × α)}, (∀ z ∈ zs, Rp K S (f z.2) z.1) → RpL K S ((zs.map (·.2)).map f) (zs.map (·.1))
  | [], _ => RpL.nil
  | z :: zs, h => RpL.cons (h z List.mem_cons_self) (rpl_unzip fun y hy => h y (List.mem_cons_of_mem _ hy))
def lexLe (x y : Int × Int) : Prop := SrtO.lexB y x = false
theorem en_sortedP (h : EL K E ta Γ (fun ds => ∃ ps : List (Int × Int), ds = ps.map pD ∧ ∀ qs : List (Int × Int), qs.Perm ps → qs.Pairwise lexLe → kl (qs.map pD)) kx) : EN K E (tCB (rSortedPS K) (tCons ta tNil)) Γ kl kx :=
  en_cb1 (h.mono fun ds ⟨ps, e, hk⟩ S Q p xs ok hp r q => by
    subst e
    obtain ⟨zs, rfl, rfl, hz⟩ := rpl_zip r
    refine ⟨p, zs, rfl, SqL.of hp, fun z hz' => ?_, fun ys l h1 h2 hn => q l _ _ hn (rpl_unzip fun z hz' => hz z (h1.mem_iff.mp hz')) (hk _ (h1.map _) h2)⟩
    obtain ⟨a, e, f⟩ := rp_pair (hz z hz')
    exact ⟨a, e, sqt_mono ok.sub f⟩)
end
section
variable {X : Cx} (K : PySem.W.Frag)
theorem units65 {k : Nat} {A : Around} (r : Room k A) : A.units + 65 < cLine := by have := r.un; omega
theorem kr_minP (hu : X.A.units + 65 < cLine) (hc : X.calm = true := by rfl) (hK : X.K = K := by rfl) : CallR X (.builtin "min") (rMinP K) := hK ▸ cr_minP hc hu
theorem kr_maxP (hu : X.A.units + 65 < cLine) (hc : X.calm = true := by rfl) (hK : X.K = K := by rfl) : CallR X (.builtin "max") (rMaxP K) := hK ▸ cr_maxP hc hu
theorem kr_sortedPS (hK : X.K = K := by rfl) : CallR X (.builtin "sorted") (rSortedPS K) := hK ▸ cr_sortedPS
theorem kop_inD (hu : X.A.units + 65 < cLine) (hK : X.K = K := by rfl) : OpR X (compareOp .In) (rInD K) := hK ▸ op_inD hu
theorem kop_notInD (hu : X.A.units + 65 < cLine) (hK : X.K = K := by rfl) : OpR X (compareOp .NotIn) (rNotInD K) := hK ▸ op_notInD hu
end
end Z

namespace Z
open PySem PySem.Spec PyProof.Rows L2
/-! ### exceptions of the program's own over any built-in one -/
/-- a built-in base B and its mro -/
structure XB (B newId initId : String) (tl : List Value) : Prop where
  eb : ExcBaseFacts B newId initId tl
  ps : ∀ self : Value, refuseLoop self "__setattr__" tl = pure ()
  ob : tl.contains (.type "object") = true
theorem xbV : XB "ValueError" "ValueError.__new__" "ValueError.__init__" [.type "ValueError", .type "Exception", .type "BaseException", .type "object"] := ⟨F.excBase_ValueError, fun self => by kernel_rfl, by decide +kernel⟩
theorem xbR : XB "RuntimeError" "RuntimeError.__new__" "RuntimeError.__init__" [.type "RuntimeError", .type "Exception", .type "BaseException", .type "object"] := ⟨F.excBase_RuntimeError, fun self => by kernel_rfl, by decide +kernel⟩
theorem xbO : XB "OverflowError" "OverflowError.__new__" "OverflowError.__init__" [.type "OverflowError", .type "ArithmeticError", .type "Exception", .type "BaseException", .type "object"] := ⟨F.excBase_OverflowError, fun self => by kernel_rfl, by decide +kernel⟩
theorem xbL : XB "LookupError" "LookupError.__new__" "LookupError.__init__" [.type "LookupError", .type "Exception", .type "BaseException", .type "object"] := ⟨F.excBase_LookupError, fun self => by kernel_rfl, by decide +kernel⟩
theorem xbI : XB "IndexError" "IndexError.__new__" "IndexError.__init__" [.type "IndexError", .type "LookupError", .type "Exception", .type "BaseException", .type "object"] := ⟨F.excBase_IndexError, fun self => by kernel_rfl, by decide +kernel⟩
theorem refs_pass {tl : List Value} (self : Value) (h : refuseLoop self "__setattr__" tl = pure ()) : ∀ cs : List Addr, refuseLoop self "__setattr__" (cs.map Value.ref ++ tl) = pure ()
  | [] => h
  | c :: cs => by
    rw [List.map_cons, List.cons_append, refuseLoop_ref]
    exact refs_pass self h cs
theorem refs_has {tl : List Value} (Y : String) : ∀ cs : List Addr, (cs.map Value.ref ++ tl).contains (.type Y) = tl.contains (.type Y)
  | [] => rfl
  | c :: cs => by
    rw [List.map_cons, List.cons_append, List.contains_cons, refs_has Y cs]
    rfl
/-- what the written part says of an exception's class -/
structure OexB (K : PySem.W.Frag) (C : Addr) (B newId initId : String) (tl : List Value) : Prop where
  xb : XB B newId initId tl
  cls : ∃ nm q N bs cs sn sub ab col dd k0 k1 k2 k3 k5, K.lookup C = some (excClassObj nm q C N bs (List.map Value.ref cs ++ tl) true sn sub ab col dd k0 k1 k2 k3 k5 newId)
  sa : PySem.W.findIn K (.ref C) "__setattr__" = some (some (.builtin "object.__setattr__"))
  exC : PySem.W.subIn K (.ref C) (.type "BaseException") = some true
  tyC : PySem.W.typeIn K (.ref C) = some (.type "type")
  kC : PySem.W.keepIn K (.ref C) = true
  noV : PySem.W.findIn K (.ref C) "value" = some none
section
open Builtin Builtin.ObjectAttr PySem.W PySem.Calls
variable {prog : Program} {w : World} {A : Around} {E : Value → Shared → Prop} {R : Result → Shared → Prop} {hp : Heap} {g : Array GenState} {d : Drawn} {t : Nat} {os : OsState}
/-- the first field of an exception -/
theorem osa_first {K : W.Frag} {name : Str} {tk : Tok} {v : Value} {x C : Addr} {fv : Array Value} {cd : ClassData} {B n1 n2 : String} {tl : List Value} {cs : List Addr}
    (Y : K.In hp) (at_x : hp.get? x = some { cls := .ref C, data := .fields fv }) (c : W.clsIn K C = some cd) (xb : XB B n1 n2 tl) (mm : cd.mro = cs.map Value.ref ++ tl) (dd : cd.hasDict = true) (no : W.findIn K (.ref C) name = some none)
    (go : ∀ h' tk' dx, (∀ b o, b ≠ x → hp.get? b = some o → h'.get? b = some o) → hp.objs.size ≤ dx → dx ≠ x → h'.get? x = some { cls := .ref C, dict := some dx, data := .fields fv } →
      h'.Ns1 dx (fun y => if y = name then some v else none) → R (.ok (.ret .none)) ⟨h', g, d, tk', os⟩) :
    codeAny (model prog w) A (.call (.builtin "object.__setattr__") ⟨[.ref x, .str name tk, v], []⟩) R ⟨hp, g, d, t, os⟩ := by
  have J : W.InstAt hp x { cls := .ref C, data := .fields fv } C none := ⟨at_x, rfl, rfl, trivial⟩
  have SO := F.store_object
  have has : cd.mro.contains (.type "object") = true := by rw [mm, refs_has]; exact xb.ob
  have nem : cd.mro.isEmpty = false := by
    cases q : cd.mro with
    | nil => rw [q] at has; cases has
    | cons _ _ => rfl
  have far : x ≠ hp.objs.size := Nat.ne_of_lt (Heap.lt_size at_x)
  have isO : W.Looks (model prog w) hp (isInstance (.ref x) (.type "object")) true := J.type.andThen (W.looks_mroIn Y (by unfold W.mroIn; rw [c, Option.bind_some, if_neg (by rw [nem]; decide), has]))
  refine codeAny_call_builtin SO.slot.plain SO.entry (@W.check_slot (model prog w) _ _ ⟨hp, g, d, t, os⟩ "object.__setattr__" "object" "__setattr__" (.ref x) [.str name tk, v] [] _ SO.kind SO.split isO (SO.args (.ref x) (.str name tk) v) ?_)
  have look : W.Looks (model prog w) hp (mroOf (.ref C)) cd.mro := (W.looks_clsIn Y c).andThen .now
  have nobody : W.Looks (model prog w) hp (storeTaker? none) none := .now
  have theC : W.Looks (model prog w) hp (classData C) cd := W.looks_clsIn Y c
  rw [W.osa_eq, refuse_eq]
  refine wpAny_bind (wpAny_bind (J.type.at (wpAny_bind (look.at ?_))))
  rw [mm, refs_pass _ (xb.ps _)]
  refine wpAny_pure (wpAny_bind (J.type.at (wpAny_bind ((W.looks_findIn Y no).at (wpAny_bind (nobody.at ?_))))))
  show wpAny _ _ (storeInOwnDict (.ref x) (.ref C) (.str name tk) name v false) _ _ _
  obtain ⟨c1, c2, c3, c4, c5, c6, c7, c8, c9, c10, c11⟩ := cd
  dsimp only at dd
  subst dd
  unfold storeInOwnDict ownDictForStores
  repeat (first | with_reducible refine HandSPX.store_in_new ?_ ?_ | with_reducible refine wpAny_loadPart_at at_x ?_ | with_reducible refine theC.at ?_ | wp_step)
  · exact ⟨_, #[], _, (Heap.get?_update_ne _ _ _ _ far.symm).trans (Heap.get?_push_at rfl rfl), rfl, fun e he => absurd he (by simp), fun _ => rfl⟩
  · intro h' tk' hn' sb
    have at_x1 : (hp.push { cls := .type "dict", data := .dict #[] }).get? x = some { cls := .ref C, data := .fields fv } := Heap.get?_push_of_some _ at_x
    refine go h' tk' hp.objs.size (fun b o hb ho => ?_) (Nat.le_refl _) far.symm ?_ hn'
    · exact (sb.2 b (Nat.ne_of_lt (Heap.lt_size ho))).trans ((Heap.get?_update_ne _ _ _ _ hb).trans (Heap.get?_push_of_some _ ho))
    · exact (sb.2 x far).trans (Heap.get?_update_self _ at_x1 rfl)
end
section
variable {X : Cx} {pins : List (Addr × Obj)} {σ : L2.St} {H : Hp} {s : Shared} {a C : Addr} {y : V} {u : Value} {Q : Unit → Shared → Prop} {E : Value → Shared → Prop} {A : Around} {B n1 n2 : String} {tl : List Value}
/-- self.value = y -/
theorem setv_ok (T : OexB X.K C B n1 n2 tl) (I : Inv X pins σ H s) (e : H a = some (exo a C none)) (ry : RelV y u)
    (h : ∀ dx s', H dx = none → dx ≠ a → Inv X pins σ (upd (upd H dx (exd dx [("value", y)])) a (exo a C (some dx))) s' → Q () s') : wpAny (model X.prog X.w) A (setAttr (.ref a) "value" u) Q E s := by
  obtain ⟨nm, q, N, bs, cs, sn, sub, ab, col, dd, k0, k1, k2, k3, k5, hC⟩ := T.cls
  have hcl : PySem.W.clsIn X.K C = some { name := nm, bases := bs, mro := .ref C :: (List.map Value.ref cs ++ tl), ns := N, qualname := q, hasDict := true, slotNames := sn, subclasses := sub, abstract := ab, collection := col, hasDel := false } := by
    unfold PySem.W.clsIn
    rw [hC] <;> rfl
  obtain ⟨t1, ho⟩ := exo_at I.hok e
  obtain ⟨hp, g, d, t, os⟩ := s
  refine PySem.W.set_plain I.kIn (ox := { cls := .ref C, dict := none, data := .fields #[.ref t1, .none, .none, .none, .bool false, .none] }) (od := none) ⟨ho, rfl, rfl, trivial⟩ T.sa ?_
  refine osa_first (cs := C :: cs) I.kIn ho hcl T.xb rfl rfl T.noV (fun h' tk' dx k dn dne hx hn => ?_)
  have newd : H dx = none := I.hok.fresh dn
  have ned : ∀ {b : Addr} {o : Obj}, hp.get? b = some o → b ≠ dx := fun {b o} q => Nat.ne_of_lt (Nat.lt_of_lt_of_le (Heap.lt_size q) dn)
  have nea : ∀ {b : Addr}, H b = none → b ≠ a := fun {b} n z => by
    rw [z, e] at n
    cases n
  have stays : Un X.fs [] H (upd (upd H dx (exd dx [("value", y)])) a (exo a C (some dx))) hp h' := by
    refine ⟨fun b o q n _ _ => k b o (nea n) q, fun b o q n _ _ => ⟨o.slots, k b o (nea n) q⟩, fun b o q n _ => ?_, fun b o q _ => ?_, fun b xs q => ?_, fun b o v q => ?_, fun b ps q => ⟨#[], ?_⟩⟩
    · rw [upd_ne (nea n), upd_ne (ned q)]
      exact n
    · by_cases hb : b = a
      · rw [hb]
        exact ⟨_, hx⟩
      · exact ⟨o, k b o hb q⟩
    · rw [upd_ne (at_ne e q exo_tup), upd_ne (ne_of_none q newd)]
      exact q
    · rw [upd_ne (at_ne e q exo_frz), upd_ne (ne_of_none q newd)]
      exact q
    · rw [upd_ne (at_ne e q exo_tbl), upd_ne (ne_of_none q newd), q]
      simp
  refine h dx _ newd dne (I.un (t' := tk') stays fun b o q => ?_)
  by_cases hb : b = a
  · subst hb
    rw [upd_same] at q
    cases q
    exact exo_ok hx
  · rw [upd_ne hb] at q
    by_cases hd : b = dx
    · subst hd
      rw [upd_same] at q
      cases q
      exact exd_ok hn (relO_put (fs := []) ry fun g => True.intro)
    · rw [upd_ne hd] at q
      refine (I.hok b o q).stay (fun c v hc z => k c v ?_ z) (fun c hc => ?_) (fun c xs hc => ?_)
      · rcases hc with hc | hc
        · rw [hc]
          exact hb
        · exact at_ne e hc exo_own
      · rw [upd_ne (at_ne e hc exo_own), upd_ne (ne_of_none hc newd)]
        exact hc
      · rw [upd_ne (at_ne e hc exo_tup), upd_ne (ne_of_none hc newd)]
        exact hc
/-- B.__init__(self, ..): nothing of it is told -/
theorem initB_ok {us : List Value} {Q : Value → Shared → Prop} (T : OexB X.K C B n1 n2 tl) (I : Inv X pins σ H s) (e : H a = some (exo a C none)) (hl : us.length ≤ sizeLine) (h : ∀ s', Inv X pins σ H s' → Q .none s') :
    wpAny (model X.prog X.w) A (call (.builtin n2) (.ref a :: us)) Q E s := by
  obtain ⟨nm, q, N, bs, cs, sn, sub, ab, col, dd, k0, k1, k2, k3, k5, hC⟩ := T.cls
  obtain ⟨t1, ho⟩ := exo_at I.hok e
  obtain ⟨hp, g, d, t, os⟩ := s
  refine wpAny_call (PySem.HandSPX.init_base T.xb.eb (fun Y => refs_has Y cs) (I.kIn _ _ hC) ho hl fun h' t2 k hx => ?_)
  have J := I.write (t' := t) (x := a) (e := a) (o := exo a C none) (by rw [e]; exact True.intro) (.inl rfl) k ⟨_, hx⟩ (exo_ok hx)
  have same : upd H a (exo a C none) = H := by
    funext b
    by_cases hb : b = a
    · rw [hb, upd_same, e]
    · rw [upd_ne hb]
  rw [same] at J
  exact h _ J
end
/-- how the base's __init__ is named: a built-in class, or an own one -/
inductive BaseI (K : PySem.W.Frag) (mg : Str → Option Value) (b : Str) (n2 : String) : Prop
  | own (Cg : Addr) (hm : mg b = some (.ref Cg)) (ga : PySem.W.specialIn K (.ref Cg) "__getattribute__" = some (some (.builtin "type.__getattribute__"))) (rd : PySem.W.readsIn K Cg (.type "type") = true)
      (fc : PySem.W.findCls K (.ref Cg) (.type "type") "__init__" = some (.val (.builtin n2))) (hh : PySem.W.handedIn (.builtin n2) = true)
  | blt (hm : mg b = none) (T : String) (hb : bootBuiltins b = some (.type T)) (nn : b ≠ "__name__") (ty : typeOf (.type T) = pure (.type "type")) (st : Manifest.isStub T = false)
      (fc : PySem.W.findCls K (.type T) (.type "type") "__init__" = some (.val (.builtin n2))) (hh : PySem.W.handedIn (.builtin n2) = true)
def tBiB (K : PySem.W.Frag) (n2 : String) (ta : TA) : TE := fun σ H Q => ta σ H fun vs H1 => ∃ (a C : Addr) (ws : List V) (B n1 : String) (tl : List Value), vs = .ref a :: ws ∧ ws.length ≤ 1000 ∧ OexB K C B n1 n2 tl ∧ H1 a = some (exo a C none) ∧ Q .non H1
def tSetV (K : PySem.W.Frag) (to te : TE) : TS := fun D σ H => te σ H fun y H1 => to σ H1 fun x H2 => ∃ (a C : Addr) (B n1 n2 : String) (tl : List Value), x = .ref a ∧ OexB K C B n1 n2 tl ∧ H2 a = some (exo a C none) ∧
  ∀ dx, H2 dx = none → dx ≠ a → D.nx σ (upd (upd H2 dx (exd dx [("value", y)])) a (exo a C (some dx)))
/-- X(e): the exception's value -/
def tMkV (C : Addr) (ta : TA) : L2.St → Hp → XK → Prop := fun σ H Q => ta σ H fun vs H1 => ∃ v, vs = [v] ∧ ∀ d, H1 d = none → Q (.ref C) (some d) (upd H1 d (.xd [("value", v)]))
/-- the promise of such an __init__ -/
def spInit (C : Addr) : Sp := fun vs H Q _ => ∃ (a : Addr) (v : V), vs = [.ref a, v] ∧ H a = some (exo a C none) ∧ ∀ dx, H dx = none → dx ≠ a → Q .non (upd (upd H dx (exd dx [("value", v)])) a (exo a C (some dx)))
section
variable {X : Cx} {o e : Expr} {es : List Expr} {to te : TE} {ta : TA} {p p' p1 p2 pos : Pos} {b : Str} {n2 : String}
theorem pe_biB {pl : Sem Bool} (hg : Gl X b) (bi : BaseI X.K X.mg b n2) (ha : PA X (e :: es) ta) (hdb : (b == ("__debug__" : Str)) = false)
    (hc : eval (.Call (.Attribute (.Name b p1) "__init__" p2) (e :: es) [] pos) X.env = (do
      let ov ← eval (.Name b p1) X.env
      standAt p2.atName
      let (f, first) ← holding [ov] (getMethod ov "__init__" pl)
      callWith pos f first (backTo pos (starEach (e :: es) X.env)) (backToKw pos (keywordEach [] X.env))) := by rfl)
    (he : starEach (e :: es) X.env = (false, eval e X.env) :: starEach es X.env := by rfl) (hpl : (backTo pos (starEach es X.env)).any (·.1) = false := by rfl) :
    PE X (.Call (.Attribute (.Name b p1) "__init__" p2) (e :: es) [] pos) (tBiB X.K n2 ta) := by
  refine ⟨fun pins s σ H Q I h => ?_⟩
  have last : ∀ s1, Inv X pins σ H s1 → wpAny (model X.prog X.w) X.A (callWith pos (Value.builtin n2) [] (backTo pos (starEach (e :: es) X.env)) []) (EP X pins σ Q) X.xe s1 := fun s1 I1 => by
    refine PyProof.Rows.callWith_method1 (thn (ha.run pos pins s1 σ H _ I1 h) fun us s2 ⟨vs, H1, I2, r1, a, C, ws, B, n1, tl, ev, hl, T, ea, q⟩ => ?_) he hpl
    subst ev
    cases r1 with
    | @cons _ u0 _ ur ra rw' =>
      obtain rfl : u0 = Value.ref a := ra
      have hlen : ur.length ≤ sizeLine := by
        rw [← Paired.length rw', sizeLine_eq]
        omega
      exact initB_ok T I2 ea hlen fun s' J => ⟨.non, H1, J, rfl, q⟩
  cases bi with
  | own Cg hm ga rd fc hh =>
    refine PySem.W.methodCall_KW (ld_glob I hg hm ?_ hdb) hc
    exact PySem.W.method_cls I.kIn ga (PySem.W.cls_value I.kIn rd fc hh (last _ (I.tok _)))
  | blt hm T hb nn ty st fc hh =>
    refine PySem.W.methodCall_KW (ld_blt I hg hm hb ?_ nn hdb) hc
    obtain ⟨m, fr⟩ := I.fr
    exact PySem.W.method_type fr I.ok.mod.kin ty st fc hh (last _ (I.tok _))
theorem ps_setV (ho : PE X o to) (he : PE X e te) (hs : swapsWith e (some (.Attribute o "value" p')) pos.line X.env = pure false := by rfl) : PS X (.Assign [.Attribute o "value" p'] e pos) (tSetV X.K to te) := by
  refine ⟨fun pins s σ H D I h => ?_⟩
  refine plainObj_wpAny_Assign_Attribute (thn (he.run pins s σ H _ I h) fun v s1 ⟨y, H1, I1, r1, q1⟩ => thn (ho.run pins s1 σ H1 _ I1 q1) fun u s2 ⟨x, H2, I2, r2, a, C, B, n1, n2, tl, ex, T, ea, q⟩ => ?_) hs
  subst ex
  obtain rfl : u = Value.ref a := r2
  exact setv_ok T I2 ea r1 fun dx s' n ne J => ⟨σ, _, J, q dx n ne⟩
end
end Z

namespace Z
open PySem PySem.Spec PyProof.Rows L2
/-! ### X(e) -/
section
variable {P : Program} {w : World} {K : PySem.W.Frag} {mg : Str → Option Value} {base : Heap}
/-- the __init__ of an exception's class -/
theorem init_ok {qual : Str} {st : Stmt} {f C : Addr} {fd : FuncData} {N : List Str} {B n1 n2 : String} {tl : List Value} (F : Fun K "__init__" qual st f fd) (S : FnScope N ["self", "value"] (defScope st)) (T : OexB K C B n1 n2 tl)
    (body : ∀ (cdv : Value) (A : Around) (outer : List Env) (s : Shared) (H : Hp) (E : XK), PSs (cxOf (L2.CX P w) P w K mg base N qual (defScope st) f cdv A outer s H E) (defBody st) (tSeq (tDrop (tBiB K n2 (tCons (tVar 0) (tCons (tVar 1) tNil)))) (tSetV K (tVar 0) (tVar 1)))) :
    FnOk P w K mg base (L2.CX P w) 1 f fd ["self", "value"] (spInit C) := by
  refine F.okX S (fun vs H Q E h => ?_) (fun cdv A outer s H vs Q E hr h => ?_)
  · obtain ⟨a, v, rfl, _⟩ := h
    rfl
  · obtain ⟨a, v, rfl, ea, q⟩ := h
    refine ⟨_, body cdv A outer s H E, ?_⟩
    exact ⟨_, rfl, _, rfl, a, C, [v], B, n1, tl, rfl, by show 1 ≤ 1000; decide, T, ea, _, rfl, _, rfl, a, C, B, n1, n2, tl, rfl, T, ea, q⟩
end
/-- an exception's class that may be made by its name -/
structure ExcOk (P : Program) (w : World) (K : PySem.W.Frag) (mg : Str → Option Value) (base : Heap) (x : Str) (C : Addr) : Prop where
  ob : ∃ B n1 n2 tl, OexB K C B n1 n2 tl
  hm : mg x = some (.ref C)
  fn : ∃ (fI : Addr) (fd : FuncData), PySem.W.findIn K (.ref C) "__init__" = some (some (.ref fI)) ∧ PySem.W.typeIn K (.ref fI) = some (.type "function") ∧ FnOk P w K mg base (L2.CX P w) 1 fI fd ["self", "value"] (spInit C) ∧ Binds K fd ["self", "value"] []
  xf : XfC K C
section
variable {X : Cx} {e : Expr} {ta : TA} {p pos : Pos}
theorem del_upd {H : Hp} {a d : Addr} {o o1 o2 o3 : HO} (ha : H a = none) (hd : d ≠ a) : upd (L2.del (upd (upd (upd H a o1) d o2) a o3) a) d o = upd H d o := by
  funext b
  by_cases h1 : b = d
  · rw [h1, upd_same, upd_same]
  · rw [upd_ne h1, upd_ne h1]
    by_cases h2 : b = a
    · rw [h2, del_same, ha]
    · rw [del_ne h2, upd_ne h2, upd_ne h1, upd_ne h2]
theorem pmkV {x : Str} {C : Addr} (T : ExcOk X.prog X.w X.K X.mg X.base x C) (hr : Room 2 X.A) (hg : Gl X x) (ha : PA X [e] ta) (hdb : (x == ("__debug__" : Str)) = false := by decide) (he : starEach [e] X.env = (false, eval e X.env) :: starEach [] X.env := by rfl) (hpl : (backTo pos (starEach [] X.env)).any (·.1) = false := by rfl) :
    PMk X (.Call (.Name x p) [e] [] pos) (tMkV C ta) := by
  intro pins s σ H Q I h
  obtain ⟨B, n1, n2, tl, TB⟩ := T.ob
  obtain ⟨nm, q, N, bs, cs, sn, sub, ab, col, dd, k0, k1, k2, k3, k5, hC⟩ := TB.cls
  obtain ⟨fI, fd, iC, tI, F1, hb⟩ := T.fn
  refine wpAny_Call_Name_kw (ld_glob I hg T.hm ?_ hdb)
  refine PySem.W.callWith_K (h₀ := X.base) I.ok.mod.kin TB.kC (thn (ha.run pos pins s σ H _ I h) fun us s1 ⟨vs, H1, I1, r1, v, ev, q1⟩ => ⟨I1.kIn, ?_⟩) he hpl
  subst ev
  obtain ⟨u, rfl, ru⟩ := vals1 r1
  show wpAny _ _ (call (.ref C) [u]) _ _ _
  obtain ⟨hp, g, dr, tk, os⟩ := s1
  have big1 : hp.objs.size ≤ hp.objs.size + 1 := Nat.le_succ _
  have hn : H1 (hp.objs.size + 1) = none := I1.hok.fresh big1
  have keep : ∀ b o, hp.get? b = some o → ((hp.push (PySem.W.kdv_tup [u])).push (PySem.HandSPX.excO C hp.objs.size)).get? b = some o := fun b o z => Heap.get?_push_of_some _ (Heap.get?_push_of_some _ z)
  have there : ((hp.push (PySem.W.kdv_tup [u])).push (PySem.HandSPX.excO C hp.objs.size)).get? (hp.objs.size + 1) = some (PySem.HandSPX.excO C hp.objs.size) := by heap_get
  have I2 : Inv X pins σ (upd H1 (hp.objs.size + 1) (exo (hp.objs.size + 1) C none)) ⟨(hp.push (PySem.W.kdv_tup [u])).push (PySem.HandSPX.excO C hp.objs.size), g, dr, tk, os⟩ :=
    I1.laid (t' := tk) (a := hp.objs.size + 1) (o := exo (hp.objs.size + 1) C none) (h' := (hp.push (PySem.W.kdv_tup [u])).push (PySem.HandSPX.excO C hp.objs.size)) keep big1 (exo_ok there)
  have r2 : Vals [V.ref (hp.objs.size + 1), v] [Value.ref (hp.objs.size + 1), u] := .cons rfl (.cons ru .nil)
  have sp : spInit C [.ref (hp.objs.size + 1), v] (upd H1 (hp.objs.size + 1) (exo (hp.objs.size + 1) C none)) (fun v' H2 => v' = .non ∧ ∃ (d : Addr) (fs : List (Str × V)), H2 (hp.objs.size + 1) = some (exo (hp.objs.size + 1) C (some d)) ∧ H2 d = some (exd d fs) ∧ H1 d = none ∧ Q (.ref C) (some d) (upd (L2.del H2 (hp.objs.size + 1)) d (.xd fs))) (fun _ _ _ => False) := by
    refine ⟨_, v, rfl, upd_same, fun dx nd ne => ⟨rfl, dx, _, upd_same, by rw [upd_ne ne, upd_same], by rw [upd_ne ne] at nd; exact nd, ?_⟩⟩
    rw [upd_ne ne] at nd
    rw [del_upd hn ne]
    exact q1 dx nd
  have len1 : [u].length ≤ sizeLine := by
    rw [sizeLine_eq]
    show 1 ≤ 16777216
    decide
  refine wpAny_call (PySem.HandSPX.call_own TB.xb.eb (fun Y => refs_has Y cs) (I1.kIn _ _ hC) (PySem.W.looks_findIn I1.kIn iC) (fun self => PySem.W.bind_fn I1.kIn self tI) len1
    (codeAny_mono (F1.run _ X.stack _ _ ⟨[Value.ref (hp.objs.size + 1), u], []⟩ [Value.ref (hp.objs.size + 1), u] _ _ (fun _ _ _ => False) (hr.make C [u] []) (I2.env0.make C [u] []) (hb _ [Value.ref (hp.objs.size + 1), u] I2.kIn rfl) r2 sp) fun r s' hq' => ?_))
  cases r with
  | error er =>
    obtain ⟨_, _, _, _, _, _, _, _, _, _, _, _, z⟩ := hq'
    exact z.elim
  | ok fl =>
    cases fl with
    | ret u2 =>
      obtain ⟨v2, H2, os2, bare2, un2, hok2, rv, ev2, d, fs, ea, ed, hd1, q2⟩ := hq'
      subst ev2
      obtain ⟨h2, g2, d2, t2, os'⟩ := s'
      exact ⟨rv, mk_end (raises_own TB.exC TB.tyC) I1 big1 keep un2 hok2 os2 bare2 ea ed hd1 q2⟩
    | next => exact False.elim hq'
    | brk => exact False.elim hq'
    | cont => exact False.elim hq'
end
/-- raise X(e) -/
def tRaise (C : Addr) (te : TE) (W : WX) : TS := fun _ σ H => tMkV C (tCons te tNil) σ H fun cls d H' => W cls d σ H'
section
variable {X : Cx} {e : Expr} {te : TE} {p pos rpos : Pos} {W : WX}
theorem ps_raiseV {x : Str} {C : Addr} (T : ExcOk X.prog X.w X.K X.mg X.base x C) (hc : X.calm = true) (tk : Takes X W) (hr : Room 2 X.A) (hg : Gl X x) (he : PE X e te) (hdb : (x == ("__debug__" : Str)) = false := by decide) (hst : starEach [e] X.env = (false, eval e X.env) :: starEach [] X.env := by rfl)
    (hpl : (backTo pos (starEach [] X.env)).any (·.1) = false := by rfl) : PS X (.Raise (some (.Call (.Name x p) [e] [] pos)) none rpos) (tRaise C te W) := ps_raise hc tk (pmkV T hr hg (pa_cons he pa_nil hst) hdb hst hpl)
end
section
variable {K : PySem.W.Frag} {W : WX} {te : TE} {Γ : Ctx} {P : Po} {C : Addr}
theorem sc_raise (h : EC K (WE W) te Γ (fun d => P.kx Γ C d) (P.kx Γ)) : SC K (WE W) (tRaise C te W) Γ P := fun S0 S σ D g e G =>
  h S0 S σ _ e (fun T v d g2 r kd => ⟨v, rfl, fun dx hn => by
    have g3 := Gr.lay g2.ok hn (.xd [("value", v)])
    exact G.kx T σ Γ (g.trans g2) g2.le (e.gr g2) ⟨upd T.F dx _, upd T.H dx _, T.M⟩ C (some dx) d g3 ⟨v, upd_same, r.mono g3.le⟩ kd⟩) (G.kx S σ Γ g (Le.refl S) e)
end
/-! ### try: .., several clauses 'except x as n' -/
def offE (D : Ends) (i : Nat) : Ends := { nx := fun σ' H' => D.nx (σ'.set i none) H', rt := D.rt, bk := fun σ' H' => D.bk (σ'.set i none) H', ct := fun σ' H' => D.ct (σ'.set i none) H' }
def wMA (K : PySem.W.Frag) (i : Nat) (Wout : WX) (D : Ends) : List (Value × (Addr → Value → Option Addr → TS)) → WX
  | [] => Wout
  | (c, ts) :: r => fun cls d σ H => ∃ b, PySem.W.exmOne K cls c = some b ∧ (b = true → ∀ a, H a = none → ts a cls d (offE D i) (σ.set i (some (.ref a))) H) ∧ (b = false → wMA K i Wout D r cls d σ H)
inductive HdsA (X : Cx) (n : Str) : List ExceptHandler → List (Value × (Addr → Value → Option Addr → TS)) → Prop
  | nil : HdsA X n [] []
  | cons {x : Str} {c : Value} {ts : Addr → Value → Option Addr → TS} {b₀ : Stmt} {suite : List Stmt} {np pos' : Pos} {hds : List ExceptHandler} {l : List (Value × (Addr → Value → Option Addr → TS))} (hc : Names X x c)
      (hsu : ∀ (a : Addr) (oe : Obj) (cls : Value) (d : Option Addr) (pn : List (Addr × Obj)), Zc cls d oe → (∃ vs, oe.data = .fields vs) → PSs (X.suite a ((a, oe) :: pn)) (b₀ :: suite) (ts a cls d)) (r : HdsA X n hds l) :
      HdsA X n (.ExceptHandler (some (.Name x np)) (some n) (b₀ :: suite) pos' :: hds) ((c, ts) :: l)
section
variable {X : Cx} {n : Str} {i : Nat} {body : List Stmt} {h₀ : ExceptHandler} {hds : List ExceptHandler} {l : List (Value × (Addr → Value → Option Addr → TS))} {pos : Pos} {tb : WX → TS} {Wout : WX}
theorem ps_tryA (hs : X.stack = X.env :: X.outer) (hf : X.env.frame = some X.env.locals) (hN : X.N.Nodup) (hi : X.N[i]? = some n) (hln : X.env.kindOf n = some .local) (tk : Takes X Wout)
    (hb : ∀ (W : WX) (pn : List (Addr × Obj)) (xe : Value → Shared → Prop), Takes (X.tr pn xe) W → PassesOwn (model X.prog X.w) X.A X.env xe → PSs (X.tr pn xe) body (tb W))
    (hh : HdsA X n (h₀ :: hds) l) : PS X (.Try body (h₀ :: hds) [] [] pos) (fun D σ H => tb (wMA X.K i Wout D l) D σ H) := by
  refine ⟨fun pins s σ H D I h => ?_⟩
  have ok := I.ok
  have frs' : X.A.frames = some (X.env :: X.outer) := by rw [ok.frames, hs]
  have loc : Loc X.env.scope n := .inl hln
  refine wpAny_Try_except ?_
  refine wpAny_mono ((hb (wMA X.K i Wout D l) (X.pn ++ pins) (fun e s₁ => wpAny (model X.prog X.w) X.A (noteFrame e X.env) (fun _ s₂ => wpAny (model X.prog X.w) X.A (setFlight e none) (fun _ s₃ =>
    wpAny (model X.prog X.w) X.A (handleBy e X.env (h₀ :: hds)) (SP X pins D) X.xe s₃) X.xe s₂) X.xe s₁) (fun u s' xx => ?_) PassesOwn.looking).run [] s σ H D (I.toTry _) h) (fun f s1 hsp => ?_) (fun _ _ z => z)
  · obtain ⟨a, B, sI, pins', σ', H', cls, d, rfl, J', nb, up, sky, na, os, ag, w⟩ := xx
    have J : Inv X pins σ' H' sI := J'.ofTry ok
    have sky2 : Sky B (X.env :: X.outer) a (Zc cls d) X.env.locals s'.heap := hs ▸ sky
    show wpAny (model X.prog X.w) X.A (noteFrame (.ref a) X.env) _ _ _
    refine Sky.land Zc.steady frs' hf sky2 fun h3 fl3 up3 => ?_
    have J3 : Inv X pins σ' H' { s' with heap := h3 } := J.landed nb fl3.1 (up.trans up3) os ag
    obtain ⟨oe3, vs3, he3, hz3, hd3⟩ := fl3.there
    have offFrames : a ∉ frs (X.env :: X.outer) := fun hm => by
      obtain ⟨_, o', e', hnf⟩ := fl3.2.2.1.mem hm
      rw [he3] at e'
      cases e'
      exact hnf _ hd3
    have nL : a ≠ X.env.locals := fun z => offFrames (List.mem_filterMap.mpr ⟨X.env, List.mem_cons_self, by rw [hf, z]⟩)
    have nF : a ∉ X.fs := fun hm => by
      obtain ⟨e, he, q⟩ := List.mem_filterMap.mp hm
      exact offFrames (List.mem_filterMap.mpr ⟨e, List.mem_cons_of_mem _ he, q⟩)
    have S3 := J3.suite he3 hd3 na nL nF
    have walk : ∀ {hds' : List ExceptHandler} {l' : List (Value × (Addr → Value → Option Addr → TS))}, HdsA X n hds' l' → wMA X.K i Wout D l' cls d σ' H' →
        wpAny (model X.prog X.w) X.A (handleBy (.ref a) X.env hds') (SP X pins D) X.xe { s' with heap := h3 } := by
      intro hds' l' hk
      induction hk with
      | nil =>
        intro w
        refine wpAny_handleBy_nil ?_
        obtain ⟨k1, k2, k3, oe, vs, Tb, oT, ts', he, hz, hd, h1, hr⟩ := id fl3
        unfold PySem.passOn
        refine wpAny_bind (wpAny_field he hd h1 ?_)
        rw [if_neg (show ¬ ((Value.ref Tb == Value.none) = true) from by simp)]
        have out : wpAny (model X.prog X.w) X.A (setFlight (.ref a) X.env.frame) (fun _ s4 => wpAny (model X.prog X.w) X.A (throw (.ref a) : Sem Flow) (SP X pins D) X.xe s4) X.xe { s' with heap := h3 } := by
          rw [hf]
          refine HandSPX.setFlight_upZ fl3 fun h4 hh4 up4 => wpAny_throw (tk _ _ ?_)
          refine ⟨a, B, sI, pins, σ', H', cls, d, rfl, J, nb, (up.trans up3).trans up4, .inr (.inr ?_), na, os, ag, w⟩
          rw [hs]
          exact hh4
        first
          | exact wpAny_bind (wpAny_pure (wpAny_bind out))
          | exact wpAny_bind out
      | @cons x c ts b₀ suite np pos' hds2 l2 hc hsu r ih =>
        intro w
        obtain ⟨b, hb1, yes, no⟩ := w
        refine wpAny_handleBy_cons (codeAny_handlers_test ?_) (by intro q; cases q)
        have kindIs : PySem.W.Looks (model X.prog X.w) h3 (typeOf (.ref a)) cls := fun A Q E s k q => wpAny_typeOf_ref (k _ _ he3) (by rw [hz3.1]; exact q)
        have LM := PySem.W.exm_one (M := model X.prog X.w) (J3.kIn) kindIs hb1
        have named : ∀ {Q : Value → Shared → Prop} {E : Value → Shared → Prop}, Q c { s' with heap := h3 } → wpAny (model X.prog X.w) (X.A.mark (some (.ref a))) (eval (.Name x np) X.env) Q E { s' with heap := h3 } := fun {Q E} q => by
          obtain ⟨hg, hdbg, hm | ⟨hm, hv, hnn⟩⟩ := hc
          · exact ld_glob (X := X.suite a ((a, oe3) :: (X.pn ++ pins))) S3 hg hm q hdbg
          · exact ld_blt (X := X.suite a ((a, oe3) :: (X.pn ++ pins))) S3 hg hm hv q hnn hdbg
        refine named (LM.here ?_)
        cases b with
        | true =>
          refine codeAny_handlers_suite_as ?_
          refine HandSPX.lands_againZ fl3 fun h4 fl4 up4 => ?_
          have J4 : Inv X pins σ' H' { s' with heap := h4 } := J.landed nb fl4.1 ((up.trans up3).trans up4) os ag
          obtain ⟨oe4, vs4, he4, hz4, hd4⟩ := fl4.there
          have S4 := J4.suite he4 hd4 na nL nF
          refine store_ok (X := X.suite a ((a, oe4) :: (X.pn ++ pins))) (v := .ref a) S4 hN hi loc rfl (fun s5 S5 => ?_) (.inr hln)
          refine wpAny_mono ((hsu a oe4 cls d (X.pn ++ pins) hz4 ⟨_, hd4⟩).run [] s5 _ H' _ S5 (yes rfl a na)) (fun f s6 hsp => ?_) (fun _ _ z => False.elim z)
          have gone : ∀ {σ6 : L2.St} {H6 : Hp} {Q : Shared → Prop}, Inv (X.suite a ((a, oe4) :: (X.pn ++ pins))) [] σ6 H6 s6 → (∀ s7, Inv X pins (σ6.set i none) H6 s7 → Q s7) →
              wpAny (model X.prog X.w) X.A (do bindName X.env n .none; unbindBehindTheSuite X.env n pos') (fun _ s7 => Q s7) X.xe s6 := fun {σ6 H6 Q} S6 hq => gone_ok (S6.unsuite ok) hN hi hln hq
          cases f with
          | next => obtain ⟨σ6, H6, S6, q6⟩ := hsp; exact gone S6 fun s7 J7 => ⟨_, _, J7, q6⟩
          | brk => obtain ⟨σ6, H6, S6, q6⟩ := hsp; exact gone S6 fun s7 J7 => ⟨_, _, J7, q6⟩
          | cont => obtain ⟨σ6, H6, S6, q6⟩ := hsp; exact gone S6 fun s7 J7 => ⟨_, _, J7, q6⟩
          | ret u => obtain ⟨v6, σ6, H6, S6, r6, q6⟩ := hsp; exact gone S6 fun s7 J7 => ⟨_, _, _, J7, r6, q6⟩
        | false =>
          show wpAny _ X.A (handleBy (.ref a) X.env hds2) _ _ _
          exact ih (no rfl)
    exact walk hh w
  · cases f with
    | next => obtain ⟨σ', H', J', q⟩ := hsp; exact wpAny_execs_nil ⟨σ', H', J'.ofTry ok, q⟩
    | brk => obtain ⟨σ', H', J', q⟩ := hsp; exact ⟨σ', H', J'.ofTry ok, q⟩
    | cont => obtain ⟨σ', H', J', q⟩ := hsp; exact ⟨σ', H', J'.ofTry ok, q⟩
    | ret u => obtain ⟨v, σ', H', J', r, q⟩ := hsp; exact ⟨v, σ', H', J'.ofTry ok, r, q⟩
end
/-! the same by data -/
def SuiteOk (K : PySem.W.Frag) (i : Nat) (P : Po) (ts : Addr → Value → Option Addr → TS) (Δ : Ctx) (C : Addr) (d : D) : Prop :=
  (∀ a dd : Addr, SC K ES0 (ts a (.ref C) (some dd)) (Δ.set i (.dat (.exc a dd d))) { nx := fun Δ' => P.nx (Δ'.set i .un), rt := P.rt, rn := P.rn, rw := P.rw, bk := fun Δ' => P.bk (Δ'.set i .un), ct := fun Δ' => P.ct (Δ'.set i .un) }) ∧
  (d = .any → ∀ a : Addr, SC K ES0 (ts a (.ref C) none) (Δ.set i (.dat (.val (.ref a)))) { nx := fun Δ' => P.nx (Δ'.set i .un), rt := P.rt, rn := P.rn, rw := P.rw, bk := fun Δ' => P.bk (Δ'.set i .un), ct := fun Δ' => P.ct (Δ'.set i .un) })
def HX (K : PySem.W.Frag) (i : Nat) (P : Po) : List (Value × (Addr → Value → Option Addr → TS)) → Ctx → Addr → D → Prop
  | [] => P.kx
  | (c, ts) :: r => fun Δ C d => ∃ b, PySem.W.exmOne K (.ref C) c = some b ∧ if b = true then SuiteOk K i P ts Δ C d else HX K i P r Δ C d
section
variable {K : PySem.W.Frag} {Wout : WX} {Γ : Ctx} {P : Po} {i : Nat} {l : List (Value × (Addr → Value → Option Addr → TS))} {tb : WX → TS}
theorem hx_ok {S0 : Wd} {D : Ends} {S : Wd} (G : Goal K (WE Wout) S0 S P D) {T : Wd} {τ : L2.St} {Δ : Ctx} (gT : Gr S0 T) (lT : Le S T) (eT : EnvOk K S0 T τ Δ) : ∀ l : List (Value × (Addr → Value → Option Addr → TS)), XP K (WE (wMA K i Wout D l) τ) T (HX K i P l Δ)
  | [] => G.kx T τ Δ gT lT eT
  | (c, ts) :: r => fun U C o d gU xv h => by
    obtain ⟨b, hb, hs⟩ := h
    refine ⟨b, hb, fun hb2 a na => ?_, fun hb2 => ?_⟩
    · subst hb2
      have hs : SuiteOk K i P ts Δ C d := hs
      have gS := gT.trans gU
      have goal : ∀ {W0 : Wd}, Le U W0 → Goal K ES0 S0 W0 { nx := fun Δ' => P.nx (Δ'.set i .un), rt := P.rt, rn := P.rn, rw := P.rw, bk := fun Δ' => P.bk (Δ'.set i .un), ct := fun Δ' => P.ct (Δ'.set i .un) } (offE D i) := fun {W0} l0 =>
        ⟨fun V τ' Δ' g l e k => G.nx V _ _ g ((lT.trans (gU.le.trans l0)).trans l) e.setUn k, G.rt, G.rn, G.rw, fun V τ' Δ' g l e k => G.bk V _ _ g ((lT.trans (gU.le.trans l0)).trans l) e.setUn k, fun V τ' Δ' g l e k => G.ct V _ _ g ((lT.trans (gU.le.trans l0)).trans l) e.setUn k, fun _ _ _ _ _ _ => xp0⟩
      cases o with
      | some dd =>
        obtain ⟨v, hv, rv⟩ := xv
        refine hs.1 a dd S0 U _ _ gS ((eT.gr gU).setDat ?_) (goal (Le.refl U))
        unfold Rp
        exact ⟨rfl, v, hv, rv⟩
      | none =>
        refine hs.2 xv a S0 U _ _ gS ((eT.gr gU).setDat ?_) (goal (Le.refl U))
        unfold Rp
        rfl
    · subst hb2
      exact hx_ok G gT lT eT r U C o d gU xv hs
theorem sc_tryA (h : ∀ W : WX, SC K (WE W) (tb W) Γ { P with kx := HX K i P l }) : SC K (WE Wout) (fun D σ H => tb (wMA K i Wout D l) D σ H) Γ P := fun S0 S σ D g e G =>
  h (wMA K i Wout D l) S0 S σ D g e ⟨G.nx, G.rt, G.rn, G.rw, G.bk, G.ct, fun T τ Δ gT lT eT => hx_ok G gT lT eT l⟩
/-- e.value -/
theorem ec_xf {E : L2.St → XK} {a dd C : Addr} {d : D} {k : D → Prop} {kx : Addr → D → Prop} (h : Γ[i]? = some (.dat (.exc a dd d))) (hk : k d) : EC K E (tXf a (.ref C) (some dd) C "value" (tVar i)) Γ k kx := fun S0 S σ Q e q x => by
  obtain ⟨v, h1, r⟩ := e.dat i _ h
  unfold Rp at r
  obtain ⟨rfl, w, hw, rw⟩ := r
  exact ⟨_, h1, rfl, rfl, dd, _, w, rfl, e.ok.sub _ _ hw, rfl, q S w d (Gr.refl e.ok) rw hk⟩
end
end Z

namespace Z
open PySem PySem.Spec PyProof.Rows L2
/-! ### instances: fields, methods, making -/
/-- a class whose instances have the fields fs -/
structure ClO (K : PySem.W.Frag) (C : Addr) (fs : List Str) : Prop where
  cl : Cls K C
  no : ∀ f ∈ fs, NoAttr K C f
/-- a method that may be called -/
structure MCal (P : Program) (w : World) (K : PySem.W.Frag) (mg : Str → Option Value) (base : Heap) (C : Addr) (m : Str) (k : Nat) (ps : List Str) (sp : Sp) : Prop where
  ex : ∃ (f : Addr) (fd : FuncData), FnOk P w K mg base (L2.CX P w) k f fd ps sp ∧ Meth K C m f ∧ Cls K C ∧ Binds K fd ps []
/-- a class that may be made -/
structure KCal (P : Program) (w : World) (K : PySem.W.Frag) (mg : Str → Option Value) (base : Heap) (x : Str) (C : Addr) (k : Nat) (ps : List Str) (dvs : List V) (sp : Sp) : Prop where
  ex : ∃ (f : Addr) (fd : FuncData) (ds : List Value), FnOk P w K mg base (L2.CX P w) k f fd ps sp ∧ Mk K C f ∧ mg x = some (.ref C) ∧ Binds K fd ps ds ∧ Vals dvs ds
theorem KCal.mg {P : Program} {w : World} {K : PySem.W.Frag} {mg : Str → Option Value} {base : Heap} {x : Str} {C : Addr} {k : Nat} {ps : List Str} {dvs : List V} {sp : Sp} (h : KCal P w K mg base x C k ps dvs sp) : mg x = some (.ref C) := by
  obtain ⟨_, _, _, _, _, e, _⟩ := h.ex
  exact e
section
variable {X : Cx} {C : Addr} {m x : Str} {k : Nat} {ps : List Str} {sp : Sp} {dvs : List V} {o e : Expr} {es : List Expr} {t : TA} {ta : TE} {p pos apos : Pos} {E : XK}
theorem passC {W : WX} {E : XK} (tk : Takes X W) (h : ∀ cls d σ H, E cls d H → W cls d σ H) : Passes (L2.CX X.prog X.w) X E := passes_call tk h
theorem pass00 : Passes (L2.CX X.prog X.w) X E0 := passL
theorem pe_methC {pl : Sem Bool} (M : MCal X.prog X.w X.K X.mg X.base C m k ps sp) (hr : Room k X.A) (ho : PE X o ta) (hx : Passes (L2.CX X.prog X.w) X E) (ha : PA X (e :: es) t)
    (hst : starEach (e :: es) X.env = (false, eval e X.env) :: starEach es X.env := by rfl) (hpl : (backTo pos (starEach es X.env)).any (·.1) = false := by rfl)
    (ht : eval (.Call (.Attribute o m apos) (e :: es) [] pos) X.env = (do
      let ov ← eval o X.env
      standAt apos.atName
      let (f, first) ← holding [ov] (getMethod ov m pl)
      callWith pos f first (backTo pos (starEach (e :: es) X.env)) (backToKw pos (keywordEach [] X.env))) := by rfl) : PE X (.Call (.Attribute o m apos) (e :: es) [] pos) (tMeth C m sp [] E ta t) := by
  obtain ⟨f, fd, F, hm, c, hb⟩ := M.ex
  exact pe_meth ho c hm F hr hb .nil hx ha hst hpl ht
theorem pe_methC0 {pl : Sem Bool} (M : MCal X.prog X.w X.K X.mg X.base C m k ps sp) (hr : Room k X.A) (ho : PE X o ta) (hx : Passes (L2.CX X.prog X.w) X E)
    (ht : eval (.Call (.Attribute o m apos) [] [] pos) X.env = (do
      let ov ← eval o X.env
      standAt apos.atName
      let (f, first) ← holding [ov] (getMethod ov m pl)
      callWith pos f first (backTo pos (starEach [] X.env)) (backToKw pos (keywordEach [] X.env))) := by rfl) : PE X (.Call (.Attribute o m apos) [] [] pos) (tMeth C m sp [] E ta tNil) := by
  obtain ⟨f, fd, F, hm, c, hb⟩ := M.ex
  exact pe_meth0 ho c hm F hr hb .nil hx ht
theorem pe_makeC (M : KCal X.prog X.w X.K X.mg X.base x C k ps dvs sp) (hr : Room (k + 1) X.A) (hg : Gl X x) (hx : Passes (L2.CX X.prog X.w) X E) (ha : PA X (e :: es) t) (hdb : (x == ("__debug__" : Str)) = false := by decide)
    (he : starEach (e :: es) X.env = (false, eval e X.env) :: starEach es X.env := by rfl) (hpl : (backTo pos (starEach es X.env)).any (·.1) = false := by rfl) : PE X (.Call (.Name x p) (e :: es) [] pos) (tMake C sp dvs E t) := by
  obtain ⟨f, fd, ds, F, mk, hm, hb, hd⟩ := M.ex
  exact pe_make mk F hr hg hm hb hd hx ha hdb he hpl
end
section
variable {K : PySem.W.Frag} {E : L2.St → XK} {S0 S T : Wd} {te ta tb tc tl : TE} {tt uu : TT} {t u : TS} {Γ : Ctx} {k k' : D → Prop} {kx : Addr → D → Prop} {P : Po} {kl : List D → Prop} {ko : O → Prop} {al : TA} {C : Addr}
theorem look_fs {f : Str} : ∀ {fs : List (Str × V)} {ns : List Str} {ds : List D} {d : D}, fs.map (·.1) = ns → RpL K S ds (fs.map (·.2)) → (ns.zip ds).lookup f = some d → ∃ v, fs.lookup f = some v ∧ Rp K S d v
  | [], ns, ds, d, e, r, h => by
    subst e
    cases h
  | (g, v) :: fs, ns, ds, d, e, r, h => by
    subst e
    rw [List.map_cons] at r h
    cases ds with
    | nil => cases h
    | cons d0 ds =>
      obtain ⟨y, ys, e1, r1, r2⟩ := r.cons_inv
      cases e1
      rw [List.zip_cons_cons, List.lookup_cons] at h
      rw [List.lookup_cons]
      by_cases hg : f == g
      · rw [hg] at h
        cases h
        simp only [hg]
        exact ⟨v, rfl, r1⟩
      · have hg' : (f == g) = false := by simpa using hg
        rw [hg'] at h
        simp only [hg']
        exact look_fs rfl r2 h
theorem look_no {f : Str} : ∀ {fs : List (Str × V)}, f ∉ fs.map (·.1) → fs.lookup f = none
  | [], _ => rfl
  | (g, v) :: fs, h => by
    rw [List.map_cons, List.mem_cons] at h
    rw [List.lookup_cons]
    have e : (f == g) = false := beq_eq_false_iff_ne.mpr fun z => h (.inl z)
    simp only [e]
    exact look_no fun z => h (.inr z)
/-- o.f -/
theorem ec_fld {f : Str} (h : EC K E ta Γ (fun d => ∃ C ns ds d', d = .ins C ns ds ∧ Cls K C ∧ NoAttr K C f ∧ (ns.zip ds).lookup f = some d' ∧ k d') kx) : EC K E (tFld K ta f) Γ k kx := fun S0 S σ Q e q x =>
  h S0 S σ _ e (fun T v d g r ⟨C, ns, ds, d', ed, c, n, hl, kd⟩ => by
    subst ed
    unfold Rp at r
    obtain ⟨a, dx, fs, rfl, hf, hn, rl⟩ := r
    obtain ⟨v, e1, r1⟩ := look_fs hn rl hl
    exact ⟨a, C, dx, fs, v, rfl, g.ok.sub _ _ hf, c, n, e1, q T v d' g r1 kd⟩) x
/-- o.m(..) that raises nothing here -/
theorem ec_meth0 {m : Str} {wp : WP} (h : EC K E ta Γ (fun d => ∃ ns ds, d = .ins C ns ds ∧ m ∉ ns ∧ EA K E al Γ (fun ws => wp (d :: ws) k F0) kx) kx) : EC K E (tMeth C m (spD K wp) [] E0 ta al) Γ k kx := fun S0 S σ Q e q x =>
  h S0 S σ _ e (fun T v d g r ⟨ns, ds, ed, hm, h2⟩ => by
    have r0 := r
    subst ed
    unfold Rp at r
    obtain ⟨a, dx, fs, rfl, hf, hn, rl⟩ := r
    refine ⟨a, dx, fs, rfl, g.ok.sub _ _ hf, look_no (by rw [hn]; exact hm), ?_⟩
    refine h2 S0 T σ _ (e.gr g) (fun U vs ws g2 r2 w => ?_) (x.gr g)
    rw [List.append_nil]
    exact ⟨U, _ :: ws, k, F0, g2.ok, rfl, RpL.cons (r0.mono g2.le) r2, w, fun V v d g3 r3 kd => q V v d ((g.trans g2).trans g3) r3 kd, xp0⟩) x
theorem en_meth0 {m : Str} {wp : WPN} (h : EC K E ta Γ (fun d => ∃ ns ds, d = .ins C ns ds ∧ m ∉ ns ∧ EA K E al Γ (fun ws => wp (d :: ws) kl F0) kx) kx) : EN K E (tMeth C m (spN K wp) [] E0 ta al) Γ kl kx := fun S0 S σ Q e q x =>
  h S0 S σ _ e (fun T v d g r ⟨ns, ds, ed, hm, h2⟩ => by
    have r0 := r
    subst ed
    unfold Rp at r
    obtain ⟨a, dx, fs, rfl, hf, hn, rl⟩ := r
    refine ⟨a, dx, fs, rfl, g.ok.sub _ _ hf, look_no (by rw [hn]; exact hm), ?_⟩
    refine h2 S0 T σ _ (e.gr g) (fun U vs ws g2 r2 w => ?_) (x.gr g)
    rw [List.append_nil]
    exact ⟨U, _ :: ws, kl, F0, g2.ok, rfl, RpL.cons (r0.mono g2.le) r2, w, fun V p xs es g3 a1 a2 a3 a4 r3 kd => q V p xs es ((g.trans g2).trans g3) ((g.trans g2).new a1) a2 a3 a4 r3 kd, xp0⟩) x
/-- .. that may raise -/
theorem ec_methX {m : Str} {wp : WP} {E1 : XK} (h : EC K (fun _ => E1) ta Γ (fun d => ∃ ns ds, d = .ins C ns ds ∧ m ∉ ns ∧ EA K (fun _ => E1) al Γ (fun ws => wp (d :: ws) k kx) kx) kx) : EC K (fun _ => E1) (tMeth C m (spD K wp) [] E1 ta al) Γ k kx := fun S0 S σ Q e q x =>
  h S0 S σ _ e (fun T v d g r ⟨ns, ds, ed, hm, h2⟩ => by
    have r0 := r
    subst ed
    unfold Rp at r
    obtain ⟨a, dx, fs, rfl, hf, hn, rl⟩ := r
    refine ⟨a, dx, fs, rfl, g.ok.sub _ _ hf, look_no (by rw [hn]; exact hm), ?_⟩
    refine h2 S0 T σ _ (e.gr g) (fun U vs ws g2 r2 w => ?_) (x.gr g)
    rw [List.append_nil]
    exact ⟨U, _ :: ws, k, kx, g2.ok, rfl, RpL.cons (r0.mono g2.le) r2, w, fun V v d g3 r3 kd => q V v d ((g.trans g2).trans g3) r3 kd, x.gr (g.trans g2)⟩) x
/-- {} -/
theorem ec_dic0 (hk : ∀ a, k (.dic a [] [])) : EC K E tDNewK Γ k kx := fun S0 S σ Q e q x p hn => by
  have g := Gr.lay e.ok hn (.dK [])
  refine q _ (.ref p) _ g ?_ (hk p)
  unfold Rp
  exact ⟨[], rfl, upd_same, rfl, RpL.nil⟩
/-! making -/
abbrev WPI := List D → (O → Prop) → (Addr → D → Prop) → Prop
/-- the promise of __init__: the instance at x is new -/
def spI (K : PySem.W.Frag) (C : Addr) (wp : WPI) : Sp := fun vs H Q E => ∃ (S : Wd) (x dx : Addr) (ws : List V) (ds : List D) (k : O → Prop) (kx : Addr → D → Prop), S.Ok ∧ S.H x = none ∧ S.H dx = none ∧ dx ≠ x ∧ H = upd (upd S.H dx (.own x)) x (.ins C dx []) ∧ vs = .ref x :: ws ∧ RpL K S ds ws ∧ wp ds k kx ∧
  (∀ (T : Wd) o A, Gr S T → Ow K S T o (.ref x) A → A.Nodup → k o → Q .non T.H) ∧ XP K E S kx
theorem ew_make {wp : WPI} {dvs : List V} {dds : List D} {E1 : XK} (hd : ∀ S : Wd, RpL K S dds dvs) (h : EA K (fun _ => E1) al Γ (fun ds => wp (ds ++ dds) ko kx) kx) : EW K (fun _ => E1) (tMake C (spI K C wp) dvs E1 al) Γ ko kx := fun S0 S σ Q e q x =>
  h S0 S σ _ e (fun T vs ds g r w y dy hy hdy ne => by
    refine ⟨T, y, dy, vs ++ dvs, ds ++ dds, ko, kx, g.ok, hy, hdy, ne, rfl, rfl, RpL.append r (hd T), w, fun U o A g2 r2 n kd => ⟨rfl, q U _ o A (g.trans g2) (r2.base fun a ha => g.new ha) n kd⟩, x.gr g⟩) x
theorem ew_make0 {wp : WPI} {dvs : List V} {dds : List D} (hd : ∀ S : Wd, RpL K S dds dvs) (h : EA K E al Γ (fun ds => wp (ds ++ dds) ko F0) kx) : EW K E (tMake C (spI K C wp) dvs E0 al) Γ ko kx := fun S0 S σ Q e q x =>
  h S0 S σ _ e (fun T vs ds g r w y dy hy hdy ne => by
    refine ⟨T, y, dy, vs ++ dvs, ds ++ dds, ko, F0, g.ok, hy, hdy, ne, rfl, rfl, RpL.append r (hd T), w, fun U o A g2 r2 n kd => ⟨rfl, q U _ o A (g.trans g2) (r2.base fun a ha => g.new ha) n kd⟩, xp0⟩) x
/-- the context at the entry of __init__ -/
def startI (n : Nat) (x C : Addr) (ds : List D) : Ctx := .tre (.ins x C [] []) :: start (n - 1) ds
theorem env_startI {x dx : Addr} {n : Str} {N : List Str} {ds : List D} {ws : List V} (ok : S.Ok) (hx : S.H x = none) (hd : S.H dx = none) (ne : dx ≠ x) (r : RpL K S ds ws) :
    Gr S ⟨S.F, upd (upd S.H dx (.own x)) x (.ins C dx []), S.M⟩ ∧ EnvOk K S ⟨S.F, upd (upd S.H dx (.own x)) x (.ins C dx []), S.M⟩ (L2.start (n :: N) (.ref x :: ws)) (startI (N.length + 1) x C ds) := by
  have g1 := Gr.layO ok hd (.own x)
  have hx1 : (upd S.H dx (.own x)) x = none := by rw [upd_ne (Ne.symm ne)]; exact hx
  have g2 := Gr.layO (S := ⟨S.F, upd S.H dx (.own x), S.M⟩) g1.ok hx1 (.ins C dx [])
  have g := g1.trans g2
  refine ⟨g, ?_⟩
  have e0 := env_start (S0 := S) (N := N) g.ok (r.mono g.le)
  obtain ⟨A, h1, h2, h3, h4⟩ := e0.fp
  have hs : L2.start (n :: N) (.ref x :: ws) = some (.ref x) :: L2.start N ws := by
    unfold L2.start
    simp
  rw [hs]
  refine ⟨g.ok, by show _ + 1 = _ + 1; rw [e0.len]; rfl, fun i => match i with | 0 => [x] | i + 1 => [], fun i s h => ?_, fun i j a hij ha hb => ?_, fun i => ?_, fun i hn => ?_⟩
  · cases i with
    | zero =>
      cases h
      refine ⟨.ref x, rfl, ?_⟩
      unfold Ow
      exact ⟨dx, [], [], rfl, rfl, upd_same, ⟨ok.fnone hx, ok.mnone hx, hx⟩, rfl, OwL.nil⟩
    | succ i =>
      have h' : (start N.length ds)[i]? = some s := h
      have q := h1 i s h'
      rcases start_get h' with rfl | ⟨d, rfl, _⟩
      · exact rfl
      · exact ⟨rfl, q.2⟩
  · cases i with
    | zero =>
      cases j with
      | zero => exact hij rfl
      | succ j => exact absurd hb List.not_mem_nil
    | succ i => exact absurd ha List.not_mem_nil
  · cases i with
    | zero => exact nodup1
    | succ i => exact List.nodup_nil
  · cases i with
    | zero => cases hn
    | succ i => rfl
/-- self.f = e -/
theorem putF_fst {f : Str} {v : V} : ∀ fs : List (Str × V), f ∉ fs.map (·.1) → (putF f v fs).map (·.1) = fs.map (·.1) ++ [f] ∧ (putF f v fs).map (·.2) = fs.map (·.2) ++ [v]
  | [], _ => ⟨rfl, rfl⟩
  | (g, x) :: r, h => by
    rw [List.map_cons, List.mem_cons] at h
    have hg : ¬ g = f := fun z => h (.inl z.symm)
    unfold putF
    rw [if_neg hg]
    obtain ⟨a, b⟩ := putF_fst r fun z => h (.inr z)
    exact ⟨by rw [List.map_cons, a]; rfl, by rw [List.map_cons, b]; rfl⟩
theorem EnvOk.same {σ : L2.St} {i : Nat} {v : V} (h1 : σ[i]? = some (some v)) : σ.set i (some v) = σ := by
  apply List.ext_getElem?
  intro j
  by_cases hj : i = j
  · subst hj
    rw [List.getElem?_set_self (List.getElem?_eq_some_iff.mp h1).1, h1]
  · rw [List.getElem?_set_ne hj]
/-- a new field of an instance of one's own -/
theorem sc_fldNew {i : Nat} {b : Addr} {f : Str} {ns : List Str} {os : List O} (c : Cls K C) (n : NoAttr K C f) (h : Γ[i]? = some (.tre (.ins b C ns os))) (hn : f ∉ ns) (hl : ns.length < 1000) (he : EC K E te Γ (fun d => P.nx (Γ.set i (.tre (.ins b C (ns ++ [f]) (os ++ [.fz d]))))) (P.kx Γ)) : SC K E (sFld K (tVar i) te f) Γ P := fun S0 S σ D g e G =>
  he S0 S σ _ e (fun T v d g2 r kd => by
    have e2 := e.gr g2
    obtain ⟨x, A, h1, ro, nd⟩ := e2.tre i _ h
    unfold Ow at ro
    obtain ⟨dx, fs, B, rfl, rfl, hp, w, hns, rl⟩ := ro
    let l := b
    obtain ⟨p1, p2⟩ := putF_fst (f := f) (v := v) fs (by rw [hns]; exact hn)
    refine ⟨_, h1, l, C, dx, fs, rfl, hp, c, n, by rw [← hns, List.length_map] at hl; exact hl, ?_⟩
    have nl : l ∉ B := (List.nodup_cons.mp nd).1
    have ok2 : Wd.Ok ⟨T.F, upd T.H l (.ins C dx (putF f v fs)), T.M⟩ := g2.ok.change w.f w.m
    have e3 := e2.step i (s' := .tre (.ins l C (ns ++ [f]) (os ++ [.fz d]))) (x' := some (.ref l)) ok2 fun B0 hB0 n0 => by
      obtain ⟨y, q0, r0⟩ := hB0 _ h
      rw [h1] at q0
      cases q0
      unfold Ow at r0
      obtain ⟨dx', fs', B', rfl, e', hp', w', hns', rl'⟩ := r0
      rw [hp] at hp'
      cases hp'
      have nl' : l ∉ B' := (List.nodup_cons.mp n0).1
      refine ⟨fun A hA => Keeps.chg fun z => hA l z List.mem_cons_self, l :: B', ⟨.ref l, rfl, ?_⟩, n0, fun a ha => .inl ha⟩
      unfold Ow
      refine ⟨dx, putF f v fs, B', rfl, rfl, upd_same, ⟨w.f, w.m, w.n⟩, by rw [p1, hns], ?_⟩
      rw [p2]
      have := (rl'.keeps (Keeps.chg (S0 := S0) (S := T) (o := .ins C dx (putF f v fs)) nl')).append (ps := [.fz d]) (ws := [v]) (B := []) (OwL.cons (A := []) (B := []) (by unfold Ow; exact ⟨rfl, r.mono (Le.chg T l _)⟩) OwL.nil)
      rw [List.append_nil] at this
      exact this
    rw [EnvOk.same h1] at e3
    exact G.nx _ σ _ ((g.trans g2).change w.n w.f w.m _) (g2.le.trans (Le.chg T l _)) e3 kd) (G.kx S σ Γ g (Le.refl S) e)
/-- the field of an instance of one's own, read as data -/
theorem OwL.fld {f : Str} : ∀ {fs : List (Str × V)} {ns : List Str} {os : List O} {A : List Addr} {d : D}, fs.map (·.1) = ns → OwL K S0 S os (fs.map (·.2)) A → (ns.zip os).lookup f = some (.fz d) → ∃ v, fs.lookup f = some v ∧ Rp K S d v
  | [], ns, os, A, d, e, r, h => by
    subst e
    cases h
  | (g, v) :: fs, ns, os, A, d, e, r, h => by
    subst e
    rw [List.map_cons] at r h
    cases os with
    | nil => cases h
    | cons o0 os =>
      obtain ⟨y, ys, B, C, e1, rfl, r1, r2⟩ := r.cons_inv
      cases e1
      rw [List.zip_cons_cons, List.lookup_cons] at h
      rw [List.lookup_cons]
      by_cases hg : f == g
      · rw [hg] at h
        cases h
        simp only [hg]
        unfold Ow at r1
        exact ⟨v, rfl, r1.2⟩
      · have hg' : (f == g) = false := by simpa using hg
        rw [hg'] at h
        simp only [hg']
        exact OwL.fld rfl r2 h
theorem ec_fldO {i : Nat} {b : Addr} {f : Str} {ns : List Str} {os : List O} {d : D} (c : Cls K C) (n : NoAttr K C f) (h : Γ[i]? = some (.tre (.ins b C ns os))) (hl : (ns.zip os).lookup f = some (.fz d)) (hk : k d) : EC K E (tFld K (tVar i) f) Γ k kx := fun S0 S σ Q e q x => by
  obtain ⟨v, A, h1, ro, nd⟩ := e.tre i _ h
  unfold Ow at ro
  obtain ⟨dx, fs, B, rfl, rfl, hp, w, hns, rl⟩ := ro
  obtain ⟨v, e1, r1⟩ := rl.fld hns hl
  exact ⟨_, h1, b, C, dx, fs, v, rfl, hp, c, n, e1, q S v d (Gr.refl e.ok) r1 hk⟩
/-! ### lists of lists of one's own -/
def rowsO (rows : List (List D)) : O := .lst (rows.map fun r => .lst (r.map .fz))
theorem rowsO_d (rows : List (List D)) : (rowsO rows).d = .lst (rows.map .lst) := by
  unfold rowsO
  rw [O.d, O.ds_eq, List.map_map]
  congr 1
  apply List.map_congr_left
  intro r _
  exact lst_fz r
/-- rows[j].append(e) -/
theorem sc_appendRow {i : Nat} {rows : List (List D)} {ti : TE} (h : Γ[i]? = some (.tre (rowsO rows))) (hi : EC K E ti Γ (fun y => ∃ (z : Int) (j : Nat) (r : List D), y = .int z ∧ ixN rows.length z = some j ∧ rows[j]? = some r ∧ r.length < 1000000 ∧ EC K E te Γ (fun d => P.nx (Γ.set i (.tre (rowsO (rows.set j (r ++ [d])))))) (P.kx Γ)) (P.kx Γ)) :
    SC K E (tDrop (tBM K "list" rAppend (tOp (rIxL K) (tVar i) ti) (tCons te tNil))) Γ P := fun S0 S σ D g e G => by
  obtain ⟨v, A, h1, ro, nd⟩ := e.tre i _ h
  refine ⟨_, h1, ?_⟩
  refine hi S0 S σ _ e (fun T wz y g2 r2 ⟨z, j, r, ey, hj, hr, hl, h3⟩ => ?_) (G.kx S σ Γ g (Le.refl S) e)
  subst ey
  have e2 := e.gr g2
  obtain ⟨v', A', h1', ro', nd'⟩ := e2.tre i _ h
  rw [h1] at h1'
  cases h1'
  unfold rowsO Ow at ro'
  obtain ⟨l, xs, B, rfl, rfl, hp, w, rl⟩ := ro'
  have hrow : (rows.map fun r => O.lst (r.map .fz))[j]? = some (.lst (r.map .fz)) := by rw [List.getElem?_map, hr]; rfl
  obtain ⟨rv, A1, B1, A2, ex, eB, rr, up⟩ := rl.at hrow
  unfold Ow at rr
  obtain ⟨lr, ys, B2, rfl, rfl, hpr, wr, rrl⟩ := rr
  obtain ⟨rfl, rd⟩ := rrl.to_fz
  have hlx : xs.length = rows.length := by
    have := rl.length
    rw [List.length_map] at this
    exact this
  refine ⟨l, xs, z, .ref lr, rfl, r2.int, SqL.of hp, ?_, ⟨.inl ⟨rfl, ys, SqL.of hpr⟩, ?_⟩⟩
  · unfold atI
    rw [hlx, hj]
    exact ex
  refine h3 S0 T σ _ e2 (fun U vd d g3 rdd kd => ?_) (G.kx T σ Γ (g.trans g2) g2.le e2)
  have g23 := g2.trans g3
  have wr3 : Own S0 U lr := ⟨g3.fr _ _ hpr wr.f, by rw [g3.mu _ _ hpr, wr.m], wr.n⟩
  have w3 : Own S0 U l := ⟨g3.fr _ _ hp w.f, by rw [g3.mu _ _ hp, w.m], w.n⟩
  have hpr3 := g3.hp _ _ hpr wr.m
  have hp3 := g3.hp _ _ hp w.m
  refine ⟨lr, ys, vd, rfl, rfl, hpr3, by rw [rd.length]; exact bigL hl, ?_⟩
  have ok2 : Wd.Ok ⟨U.F, upd U.H lr (.lst (ys ++ [vd])), U.M⟩ := g3.ok.change wr3.f wr3.m
  have e4 := (e2.gr g3).step i (s' := .tre (rowsO (rows.set j (r ++ [d])))) (x' := some (.ref l)) ok2 fun B0 hB0 n0 => by
    obtain ⟨y, q0, r0⟩ := hB0 _ h
    rw [h1] at q0
    cases q0
    unfold rowsO Ow at r0
    obtain ⟨l', xs', B', rfl, e', hp', w', rl'⟩ := r0
    cases e'
    rw [hp3] at hp'
    cases hp'
    obtain ⟨rv', A1', B1', A2', ex', eB', rr', up'⟩ := rl'.at hrow
    rw [ex] at ex'
    cases ex'
    unfold Ow at rr'
    obtain ⟨lr', ys', B2', rfl, e', hpr', wr', rrl'⟩ := rr'
    cases e'
    rw [hpr3] at hpr'
    cases hpr'
    obtain ⟨rfl, rd'⟩ := rrl'.to_fz
    subst eB'
    have n1 := (List.nodup_cons.mp n0).1
    have n2 := (List.nodup_cons.mp n0).2
    have nr : lr ∉ A1' ++ A2' := by
      intro z
      rw [List.nodup_append] at n2
      obtain ⟨_, n3, n4⟩ := n2
      rcases List.mem_append.mp z with z | z
      · exact n4 lr z lr (by simp) rfl
      · have : lr ∉ A2' := by
          have := (List.nodup_append.mp n3).2.2
          exact fun y => this lr (by simp) lr y rfl
        exact this z
    have nll : lr ≠ l := fun z => n1 (by rw [← z]; simp)
    refine ⟨fun A hA => Keeps.chg fun z => hA lr z (by simp), l :: (A1' ++ ([lr] ++ A2')), ⟨.ref l, rfl, ?_⟩, n0, fun a ha => .inl ha⟩
    unfold rowsO Ow
    refine ⟨l, xs, _, rfl, rfl, by show upd U.H lr _ l = _; rw [upd_ne (Ne.symm nll)]; exact hp3, ⟨w3.f, w3.m, w3.n⟩, ?_⟩
    have new := up' (T := ⟨U.F, upd U.H lr (.lst (ys ++ [vd])), U.M⟩) (o' := .lst ((r ++ [d]).map .fz)) (v' := .ref lr) (B' := [lr]) (Keeps.chg nr) (by
      unfold Ow
      refine ⟨lr, ys ++ [vd], [], rfl, rfl, upd_same, ⟨wr3.f, wr3.m, wr3.n⟩, OwL.of_fz (RpL.append ((rd'.mono (Le.chg U lr _))) (RpL.cons (rdd.mono (Le.chg U lr _)) RpL.nil))⟩)
    have es : xs.set j (.ref lr) = xs := by
      apply List.ext_getElem?
      intro q
      by_cases hq : j = q
      · subst hq
        rw [List.getElem?_set_self (List.getElem?_eq_some_iff.mp ex).1, ex]
      · rw [List.getElem?_set_ne hq]
    rw [es] at new
    rw [List.map_set]
    exact new
  rw [EnvOk.same h1] at e4
  exact G.nx _ σ _ ((g.trans g23).change wr3.n wr3.f wr3.m _) (g23.le.trans (Le.chg U lr _)) e4 kd
end
end Z

namespace Z
open PySem PySem.Spec PyProof.Rows L2
/-! ### repr of data -/
mutual
def D.sh : D → Bool
  | .non => true
  | .bl _ => true
  | .int i => decide (i.natAbs.log2 < 1920)
  | .str _ => true
  | .lst ds => D.shs ds
  | .tup ds => D.shs ds
  | .dic _ ks ds => ks.isEmpty && ds.isEmpty
  | _ => false
def D.shs : List D → Bool
  | [] => true
  | d :: ds => d.sh && D.shs ds
end
section
variable {X : Cx} {pins : List (Addr × Obj)} {σ : L2.St} {s : Shared} {S : Wd}
theorem pairs_nil {K : Type} [DecidableEq K] {prog : Program} {w : World} {knd : KeyKind prog w K} {es : List DictEntry} (h : Pairs knd es []) : es = [] := by
  cases h
  rfl
mutual
theorem rp_show (ok : S.Ok) (I : Inv X pins σ S.H s) : ∀ {d : D} {v : V} {u : Value}, d.sh = true → Rp X.K S d v → RelV v u → d.py.shown.length ≤ sizeLine →
    ∃ as bs, Reads s.heap u d.py as ∧ ReadAtMost s.heap d.py.depth bs ∧ ReprK X.prog X.w bs s.heap d.py.depth u d.py.shown
  | .non, v, u, _, r, ru, hz => by
    unfold Rp at r
    subst r
    obtain rfl : u = Value.none := ru
    unfold D.py at hz ⊢
    obtain ⟨bs, h1, h2⟩ := ReprK.of_reads (prog := X.prog) (w := X.w) (h₀ := s.heap) .none rfl (fun z => nomatch z) hz
    exact ⟨_, bs, .none, h1, h2⟩
  | .bl b, v, u, _, r, ru, hz => by
    unfold Rp at r
    subst r
    obtain rfl : u = Value.bool b := ru
    unfold D.py at hz ⊢
    obtain ⟨bs, h1, h2⟩ := ReprK.of_reads (prog := X.prog) (w := X.w) (h₀ := s.heap) (.bool b) rfl (fun z => nomatch z) hz
    exact ⟨_, bs, .bool b, h1, h2⟩
  | .int i, v, u, hs, r, ru, hz => by
    unfold Rp at r
    subst r
    obtain ⟨t, rfl⟩ := ru
    unfold D.py at hz ⊢
    unfold D.sh at hs
    obtain ⟨bs, h1, h2⟩ := ReprK.of_reads (prog := X.prog) (w := X.w) (h₀ := s.heap) (.int i t) (by simpa [PyData.showable] using hs) (fun z => nomatch z) hz
    exact ⟨_, bs, .int i t, h1, h2⟩
  | .str x, v, u, _, r, ru, hz => by
    unfold Rp at r
    subst r
    obtain ⟨t, rfl⟩ := ru
    unfold D.py at hz ⊢
    obtain ⟨bs, h1, h2⟩ := ReprK.of_reads (prog := X.prog) (w := X.w) (h₀ := s.heap) (.str x t) rfl (fun z => nomatch z) hz
    exact ⟨_, bs, .str x t, h1, h2⟩
  | .lst ds, v, u, hs, r, ru, hz => by
    unfold Rp at r
    obtain ⟨a, xs, rfl, f, rl⟩ := r
    obtain rfl : u = Value.ref a := ru
    unfold D.sh at hs
    unfold D.py at hz ⊢
    have hz' : (listText (PyData.shownAll (D.pys ds))).length ≤ sizeLine := by simpa only [PyData.shown] using hz
    obtain ⟨its, rv, ⟨o, n, e, hc, _, hd⟩, _⟩ := I.list (SqL.of (ok.sub _ _ f))
    obtain ⟨as, bs, h1, h2, h3⟩ := rp_shows ok I hs rl rv (fun t ht => Nat.le_trans (listText_mem_le ht) hz')
    have rd : Reads s.heap (.ref a) (.list (D.pys ds)) _ := .list e hc hd (by simpa using h1)
    have hna : a ∉ bs := not_mem_of_deeper rd (by simp only [PyData.depth]; omega) h2
    refine ⟨_, a :: bs, rd, ReadAtMost.cons rd (by simp only [PyData.depth]; omega) h2, ?_⟩
    simp only [PyData.depth, PyData.shown]
    cases its with
    | nil =>
      have e0 : D.pys ds = [] := by
        generalize D.pys ds = zs at h1
        cases h1
        rfl
      rw [e0]
      simp only [PyData.shownAll, listText_nil]
      exact ReprK.listEmpty e hc hd
    | cons x l => exact ReprK.list e hc hd hna (by simpa using h3.length_eq) (fun i y q => h3.item i y (by simpa using q))
  | .tup ds, v, u, hs, r, ru, hz => by
    unfold Rp at r
    obtain ⟨a, xs, rfl, f, rl⟩ := r
    obtain rfl : u = Value.ref a := ru
    unfold D.sh at hs
    unfold D.py at hz ⊢
    have hz' : (tupleText (PyData.shownAll (D.pys ds))).length ≤ sizeLine := by simpa only [PyData.shown] using hz
    obtain ⟨its, rv, ⟨o, e, hc, n, hd⟩, _⟩ := I.tuple (sqt_mono ok.sub f)
    obtain ⟨as, bs, h1, h2, h3⟩ := rp_shows ok I hs rl rv (fun t ht => Nat.le_trans (tupleText_mem_le ht) hz')
    have rd : Reads s.heap (.ref a) (.tuple (D.pys ds)) _ := .tuple e hc hd (by simpa using h1)
    have hna : a ∉ bs := not_mem_of_deeper rd (by simp only [PyData.depth]; omega) h2
    refine ⟨_, a :: bs, rd, ReadAtMost.cons rd (by simp only [PyData.depth]; omega) h2, ?_⟩
    simp only [PyData.depth, PyData.shown]
    exact ReprK.tuple e hc hd hna (by simpa using h3)
  | .dic a ks ds, v, u, hs, r, ru, hz => by
    unfold D.sh at hs
    rw [Bool.and_eq_true, List.isEmpty_iff, List.isEmpty_iff] at hs
    obtain ⟨rfl, rfl⟩ := hs
    unfold Rp at r
    obtain ⟨kvs, rfl, f, hk, rl⟩ := r
    obtain rfl : u = Value.ref a := ru
    have hk' : kvs = [] := List.map_eq_nil_iff.mp hk
    subst hk'
    obtain ⟨_, hsys, vs, kv, o, es, ep, e, xd, hd, _, hp, _⟩ := I.hok a _ (ok.sub _ _ f)
    cases kv
    have he : es.toList = [] := pairs_nil hp
    unfold D.py at hz ⊢
    have rd : Reads s.heap (.ref a) (.dict []) ([a] ++ [] ++ []) := .dict (as := []) (bs := []) e xd.1 hd (by rw [he]; exact .nil) (by rw [he]; exact .nil)
    refine ⟨_, [a], rd, ReadAtMost.cons (n := 0) (bs := []) rd (Nat.zero_le _) (fun _ h => nomatch h), ?_⟩
    simp only [PyData.depth, PyData.shown, PyData.shownKv]
    exact ReprK.dict e xd.1 hd hsys (fun h => nomatch h) (by rw [he]; exact .nil)
  | .scr _, v, u, hs, r, ru, hz => by unfold D.sh at hs; cases hs
  | .pool, v, u, hs, r, ru, hz => by unfold D.sh at hs; cases hs
  | .any, v, u, hs, r, ru, hz => by unfold D.sh at hs; cases hs
  | .val _, v, u, hs, r, ru, hz => by unfold D.sh at hs; cases hs
  | .ins _ _ _, v, u, hs, r, ru, hz => by unfold D.sh at hs; cases hs
  | .memo _, v, u, hs, r, ru, hz => by unfold D.sh at hs; cases hs
  | .tab _, v, u, hs, r, ru, hz => by unfold D.sh at hs; cases hs
  | .exc _ _ _, v, u, hs, r, ru, hz => by unfold D.sh at hs; cases hs
theorem rp_shows (ok : S.Ok) (I : Inv X pins σ S.H s) : ∀ {ds : List D} {vs : List V} {us : List Value}, D.shs ds = true → RpL X.K S ds vs → Vals vs us → (∀ t ∈ PyData.shownAll (D.pys ds), t.length ≤ sizeLine) →
    ∃ as bs, ReadsAll s.heap us (D.pys ds) as ∧ ReadAtMost s.heap (PyData.depthAll (D.pys ds)) bs ∧ ReprAllK X.prog X.w bs s.heap (PyData.depthAll (D.pys ds)) us (PyData.shownAll (D.pys ds))
  | [], vs, us, _, r, rv, _ => by
    rw [r.nil_inv] at rv
    cases rv
    unfold D.pys
    exact ⟨_, [], .nil, (fun _ h => nomatch h), by simp only [PyData.shownAll]; exact .nil⟩
  | d :: ds, vs, us, hs, r, rv, hz => by
    obtain ⟨y, ys, rfl, r1, r2⟩ := r.cons_inv
    unfold D.shs at hs
    rw [Bool.and_eq_true] at hs
    cases rv with
    | cons ru rv =>
      unfold D.pys at hz ⊢
      obtain ⟨as1, b1, g1, g2, g3⟩ := rp_show ok I hs.1 r1 ru (hz _ (by simp only [PyData.shownAll]; exact List.mem_cons_self ..))
      obtain ⟨as2, b2, k1, k2, k3⟩ := rp_shows ok I hs.2 r2 rv (fun t ht => hz t (by simp only [PyData.shownAll]; exact List.mem_cons_of_mem _ ht))
      refine ⟨as1 ++ as2, b1 ++ b2, .cons g1 k1, ?_, ?_⟩
      · simp only [PyData.depthAll]
        exact (g2.mono (Nat.le_max_left _ _)).append (k2.mono (Nat.le_max_right _ _))
      · simp only [PyData.depthAll, PyData.shownAll]
        exact .cons ((g3.more fun b hb => List.mem_append_left _ hb).level_le (Nat.le_max_left _ _)) (k3.more_le (fun b hb => List.mem_append_right _ hb) (Nat.le_max_right _ _))
end
/-- repr(x) -/
def zRepr (K : PySem.W.Frag) : List V → Hp → VK → Prop := fun vs H Q => ∃ (v : V) (S : Wd) (d : D), vs = [v] ∧ S.Ok ∧ S.H = H ∧ Rp K S d v ∧ d.sh = true ∧ d.py.depth ≤ 60 ∧ d.py.shown.length ≤ sizeLine ∧ Q (.str d.py.shown) H
theorem cz_repr (hg : X.A.guards = some []) (hu : X.A.units + 65 < cLine) : CallR X (.builtin "repr") (zRepr X.K) := by
  intro pins s σ H vs us Q I r h
  obtain ⟨v, S, d, rfl, ok, eH, rp, hs, hd, hz, q⟩ := h
  subst eH
  obtain ⟨u, rfl, ru⟩ := vals1 r
  cases d with
  | non =>
    unfold Rp at rp
    subst rp
    obtain rfl : u = Value.none := ru
    exact PySem.P.repr_of_none ⟨.str _, S.H, I.tok _, ⟨_, rfl⟩, by unfold D.py at q; exact q⟩
  | bl b =>
    unfold Rp at rp
    subst rp
    obtain rfl : u = Value.bool b := ru
    exact PySem.P.repr_of_bool ⟨.str _, S.H, I.tok _, ⟨_, rfl⟩, by unfold D.py at q; simpa only [PyData.shown] using q⟩
  | int i =>
    unfold Rp at rp
    subst rp
    obtain ⟨t, rfl⟩ := ru
    unfold D.sh at hs
    exact PySem.P.repr_of_int (of_decide_eq_true hs) ⟨.str _, S.H, I.tok _, ⟨_, rfl⟩, by unfold D.py at q; simpa only [PyData.shown] using q⟩
  | str x =>
    unfold Rp at rp
    subst rp
    obtain ⟨t, rfl⟩ := ru
    unfold D.py at hz q
    exact PySem.P.repr_of_str ⟨.str _, S.H, I.tok _, ⟨_, rfl⟩, by simpa only [PyData.shown] using q⟩ (by simpa only [PyData.shown] using hz)
  | lst ds =>
    obtain ⟨as, bs, rd, h2, h3⟩ := rp_show ok I hs rp ru hz
    unfold Rp at rp
    obtain ⟨a, xs, rfl, f, rl⟩ := rp
    obtain rfl : u = Value.ref a := ru
    unfold D.sh at hs
    unfold D.py at hz hd q
    have hz' : (listText (PyData.shownAll (D.pys ds))).length ≤ sizeLine := by simpa only [PyData.shown] using hz
    obtain ⟨its, rv, ⟨o, n, e, hc, _, hdt⟩, _⟩ := I.list (SqL.of (ok.sub _ _ f))
    obtain ⟨as, bs, h1, h2, h3⟩ := rp_shows ok I hs rl rv (fun t ht => Nat.le_trans (listText_mem_le ht) hz')
    have rd : Reads s.heap (.ref a) (.list (D.pys ds)) _ := .list e hc hdt (by simpa using h1)
    have hna : a ∉ bs := not_mem_of_deeper rd (by simp only [PyData.depth]; omega) h2
    simp only [PyData.depth] at hd
    simp only [PyData.shown] at q
    refine call_repr_slot (by omega) (T := "list") ⟨o, e, hc⟩ F.slot_list_repr.toG ?_
    cases its with
    | nil =>
      have e0 : D.pys ds = [] := by
        generalize D.pys ds = zs at h1
        cases h1
        rfl
      rw [e0] at q
      simp only [PyData.shownAll, listText_nil] at q
      exact call_list_repr_empty ⟨o, e, hc⟩ e hdt ⟨_, _, rfl, .str _, S.H, I.tok _, ⟨_, rfl⟩, q⟩
    | cons x l =>
      exact call_list_reprK e hc hdt hna (by simpa using h3.length_eq) (fun i y q => h3.item i y (by simpa using q)) hg (fun b _ => Clear.nil b) (by show X.A.units + 1 + _ < cLine; omega) (fun _ _ e => e)
        (fun h' w' tk hk => ⟨_, _, rfl, .str _, S.H, I.kept hk, ⟨_, rfl⟩, q⟩) hz'
  | tup ds =>
    unfold Rp at rp
    obtain ⟨a, xs, rfl, f, rl⟩ := rp
    obtain rfl : u = Value.ref a := ru
    unfold D.sh at hs
    unfold D.py at hz hd q
    have hz' : (tupleText (PyData.shownAll (D.pys ds))).length ≤ sizeLine := by simpa only [PyData.shown] using hz
    obtain ⟨its, rv, ⟨o, e, hc, n, hdt⟩, _⟩ := I.tuple (sqt_mono ok.sub f)
    obtain ⟨as, bs, h1, h2, h3⟩ := rp_shows ok I hs rl rv (fun t ht => Nat.le_trans (tupleText_mem_le ht) hz')
    have rd : Reads s.heap (.ref a) (.tuple (D.pys ds)) _ := .tuple e hc hdt (by simpa using h1)
    have hna : a ∉ bs := not_mem_of_deeper rd (by simp only [PyData.depth]; omega) h2
    simp only [PyData.depth] at hd
    simp only [PyData.shown] at q
    refine call_repr_slot (by omega) (T := "tuple") ⟨o, e, hc⟩ F.slot_tuple_repr ?_
    exact call_tuple_reprK e hc hdt hna (by simpa using h3) hg (fun b _ => Clear.nil b) (by show X.A.units + 1 + _ < cLine; omega) (fun _ _ e => e)
      (fun h' w' tk hk => ⟨_, _, rfl, .str _, S.H, I.kept hk, ⟨_, rfl⟩, q⟩) hz'
  | dic a ks ds =>
    unfold D.sh at hs
    rw [Bool.and_eq_true, List.isEmpty_iff, List.isEmpty_iff] at hs
    obtain ⟨rfl, rfl⟩ := hs
    unfold Rp at rp
    obtain ⟨kvs, rfl, f, hk, rl⟩ := rp
    obtain rfl : u = Value.ref a := ru
    have hk' : kvs = [] := List.map_eq_nil_iff.mp hk
    subst hk'
    obtain ⟨_, hsys, vs, kv, o, es, ep, e, xd, hdt, _, hp, _⟩ := I.hok a _ (ok.sub _ _ f)
    cases kv
    have he : es.toList = [] := pairs_nil hp
    unfold D.py at hz hd q
    simp only [PyData.shown, PyData.shownKv] at q hz
    refine call_repr_slot (by omega) (T := "dict") ⟨o, e, xd.1⟩ F.slot_dict_repr ?_
    exact call_dict_reprK (as := []) (d := 0) e xd.1 hdt hsys (fun h => nomatch h) (by rw [he]; exact .nil) hg (fun b _ => Clear.nil b) (by show X.A.units + 1 + _ < cLine; omega) (fun _ _ e => e)
      (fun h' w' tk hk => ⟨_, _, rfl, .str _, S.H, I.kept hk, ⟨_, rfl⟩, q⟩) hz
  | _ => unfold D.sh at hs; cases hs
theorem kz_repr (K : PySem.W.Frag) (hg : X.A.guards = some []) (hu : X.A.units + 65 < cLine) (hK : X.K = K := by rfl) : CallR X (.builtin "repr") (zRepr K) := hK ▸ cz_repr hg hu
end
/-- what may be shown -/
structure Shw (d : D) : Prop where
  sh : d.sh = true
  dep : d.py.depth ≤ 60
  len : d.py.shown.length ≤ sizeLine
section
variable {K : PySem.W.Frag} {E : L2.St → XK} {te ta tb : TE} {Γ : Ctx} {k : D → Prop} {kx : Addr → D → Prop}
theorem ec_repr (h : EV K E ta Γ (fun d => Shw d ∧ k (.str d.py.shown)) kx) : EC K E (tCB (zRepr K) (tCons ta tNil)) Γ k kx := fun S0 S σ Q e q x =>
  h S0 S σ _ e (fun T v d g r ⟨hs, kd⟩ => ⟨v, T.vw, d, rfl, vw_ok g.ok, rfl, r, hs.sh, hs.dep, hs.len, q T _ _ g (by unfold Rp; rfl) kd⟩) x
end
end Z

namespace Z
open PySem PySem.Spec PyProof.Rows L2
/-! ### how long a text of data is -/
structure ShwN (n e : Nat) (d : D) : Prop where
  sh : d.sh = true
  dep : d.py.depth ≤ e
  len : d.py.shown.length ≤ n
theorem ShwN.ok {n e : Nat} {d : D} (h : ShwN n e d) (hn : n ≤ 16777216) (he : e ≤ 60) : Shw d := ⟨h.sh, Nat.le_trans h.dep he, Nat.le_trans h.len (by rw [sizeLine_eq]; exact hn)⟩
theorem ShwN.mono {n e n' e' : Nat} {d : D} (h : ShwN n e d) (hn : n ≤ n') (he : e ≤ e') : ShwN n' e' d := ⟨h.sh, Nat.le_trans h.dep he, Nat.le_trans h.len hn⟩
theorem log_small {i : Int} (h : -(10 ^ 250) < i ∧ i < 10 ^ 250) : i.natAbs.log2 < 1920 := by
  have e : i.natAbs < 2 ^ 1000 := by
    have h3 : (10 : Nat) ^ 250 < 2 ^ 1000 := by decide +kernel
    have h4 : i.natAbs < 10 ^ 250 := by omega
    exact Nat.lt_trans h4 h3
  exact Nat.lt_of_lt_of_le (PySem.Flt.log2_lt_of (by decide) e) (by decide)
theorem shw_int {i : Int} (h : -(10 ^ 250) < i ∧ i < 10 ^ 250) : ShwN 1921 0 (.int i) := by
  have hl := log_small h
  refine ⟨by unfold D.sh; exact decide_eq_true hl, by unfold D.py; exact Nat.le_refl _, ?_⟩
  unfold D.py
  simp only [PyData.shown]
  exact int_text_len_1921 hl
theorem shw_non : ShwN 4 0 .non := ⟨by unfold D.sh; rfl, by unfold D.py; exact Nat.le_refl _, by unfold D.py; decide +kernel⟩
theorem shw_bl {b : Bool} : ShwN 5 0 (.bl b) := ⟨by unfold D.sh; rfl, by unfold D.py; exact Nat.le_refl _, by unfold D.py; cases b <;> decide +kernel⟩
theorem shw_str {x : Str} {n : Nat} (h : (reprText x).length ≤ n) : ShwN n 0 (.str x) := ⟨by unfold D.sh; rfl, by unfold D.py; exact Nat.le_refl _, by unfold D.py; simp only [PyData.shown]; exact h⟩
theorem shw_dic {a : Addr} : ShwN 5 1 (.dic a [] []) := ⟨by unfold D.sh; rfl, by unfold D.py; decide +kernel, by unfold D.py; decide +kernel⟩
theorem shw_all {n e : Nat} : ∀ {ds : List D}, (∀ d ∈ ds, ShwN n e d) → D.shs ds = true ∧ PyData.depthAll (D.pys ds) ≤ e ∧ ((PyData.shownAll (D.pys ds)).map (·.length)).sum ≤ n * ds.length ∧ (PyData.shownAll (D.pys ds)).length = ds.length
  | [], _ => ⟨by unfold D.shs; rfl, by unfold D.pys; exact Nat.zero_le _, by unfold D.pys; exact Nat.zero_le _, by unfold D.pys; rfl⟩
  | d :: ds, h => by
    have h1 := h d List.mem_cons_self
    obtain ⟨a, b, c, l⟩ := shw_all (ds := ds) fun x hx => h x (List.mem_cons_of_mem _ hx)
    refine ⟨?_, ?_, ?_, ?_⟩
    · unfold D.shs
      rw [h1.sh, a]
      rfl
    · unfold D.pys
      simp only [PyData.depthAll]
      exact Nat.max_le.mpr ⟨h1.dep, b⟩
    · unfold D.pys
      simp only [PyData.shownAll, List.map_cons, List.sum_cons, List.length_cons]
      have := h1.len
      rw [Nat.mul_add]
      omega
    · unfold D.pys
      simp only [PyData.shownAll, List.length_cons, l]
theorem shw_lst {n e : Nat} {ds : List D} (h : ∀ d ∈ ds, ShwN n e d) : ShwN ((n + 2) * ds.length + 3) (e + 1) (.lst ds) := by
  obtain ⟨a, b, c, l⟩ := shw_all h
  refine ⟨by unfold D.sh; exact a, ?_, ?_⟩
  · unfold D.py
    simp only [PyData.depth]
    omega
  · unfold D.py
    simp only [PyData.shown]
    refine Nat.le_trans (listText_len_le _) ?_
    rw [l, Nat.add_mul]
    omega
theorem shw_tup {n e : Nat} {ds : List D} (h : ∀ d ∈ ds, ShwN n e d) : ShwN ((n + 2) * ds.length + 3) (e + 1) (.tup ds) := by
  obtain ⟨a, b, c, l⟩ := shw_all h
  refine ⟨by unfold D.sh; exact a, ?_, ?_⟩
  · unfold D.py
    simp only [PyData.depth]
    omega
  · unfold D.py
    simp only [PyData.shown]
    refine Nat.le_trans (tupleText_len_le _) ?_
    rw [l, Nat.add_mul]
    omega
/-- a bounded list -/
theorem shw_lstB {n e m N : Nat} {ds : List D} (h : ∀ d ∈ ds, ShwN n e d) (hl : ds.length ≤ m) (hN : (n + 2) * m + 3 ≤ N) : ShwN N (e + 1) (.lst ds) := (shw_lst h).mono (Nat.le_trans (Nat.add_le_add_right (Nat.mul_le_mul_left _ hl) 3) hN) (Nat.le_refl _)
theorem shw_tupB {n e m N : Nat} {ds : List D} (h : ∀ d ∈ ds, ShwN n e d) (hl : ds.length ≤ m) (hN : (n + 2) * m + 3 ≤ N) : ShwN N (e + 1) (.tup ds) := (shw_tup h).mono (Nat.le_trans (Nat.add_le_add_right (Nat.mul_le_mul_left _ hl) 3) hN) (Nat.le_refl _)
theorem shw_iL {ns : List Int} {m N : Nat} (h : ∀ i ∈ ns, -(10 ^ 250) < i ∧ i < 10 ^ 250) (hl : ns.length ≤ m) (hN : 1923 * m + 3 ≤ N) : ShwN N 1 (.lst (ns.map .int)) := shw_lstB (n := 1921) (e := 0) (fun d hd => by
  obtain ⟨i, hi, rfl⟩ := List.mem_map.mp hd
  exact shw_int (h i hi)) (by rw [List.length_map]; exact hl) hN
section
variable {X : Cx}
/-! ### more rules -/
theorem get_list : PGet X (rIxL X.K) := by
  intro pins s σ H o i ov iv Q I ro ri h
  obtain ⟨p, xs, i, z, rfl, rfl, hq, he, q⟩ := h
  cases ro
  obtain ⟨t, rfl⟩ := ri
  obtain ⟨its, r, pl, hz⟩ := I.list hq
  obtain ⟨j, h1, h2, h3, h4, h5⟩ := atI_get he
  obtain ⟨w, ew, rw'⟩ := r.get h2
  have hl := r.length
  have hn := line63
  have fin : EP X pins σ Q w s := ⟨z, H, I, rw', q⟩
  by_cases h0 : 0 ≤ i
  · have hj : i.toNat = j := by
      rw [seqIndex_of h0 h5] at h1
      exact Option.some.inj h1
    exact wpAny_getItem_list pl.isList h0 (by omega) (by rw [hj]; simpa using ew) fin
  · have hj : (i + (its.toArray.size : Int)).toNat = j := by
      rw [seqIndex_neg (by omega) h4] at h1
      rw [List.size_toArray, ← hl]
      exact Option.some.inj h1
    exact wpAny_getItem_list_neg pl.isList (by omega) (by rw [List.size_toArray] <;> omega) (by omega) (by rw [hj]; simpa using ew) fin
theorem kget_list (K : PySem.W.Frag) (hK : X.K = K := by rfl) : PGet X (rIxL K) := hK ▸ get_list
theorem k_isiT (K : PySem.W.Frag) (hK : X.K = K := by rfl) : CallR X (.builtin "isinstance") (rIsiT K) := hK ▸ call_isiT
/-- tuple(list) -/
def zTup (K : PySem.W.Frag) : List V → Hp → VK → Prop := fun xs H Q => ∃ p ys, xs = [.ref p] ∧ SqL K H p ys ∧ ∀ l, H l = none → Q (.ref l) (upd H l (.tup ys))
theorem cz_tup : CallR X (.type "tuple") (zTup X.K) := by
  intro pins s σ H vs us Q I r h
  obtain ⟨p, ys, e, hs, q⟩ := h
  exact call_tuple_of pins s σ H vs us Q I r ⟨p, ys, e, .inl ⟨hs, q⟩⟩
theorem kz_tup (K : PySem.W.Frag) (hK : X.K = K := by rfl) : CallR X (.type "tuple") (zTup K) := hK ▸ cz_tup
end
section
variable {K : PySem.W.Frag} {E : L2.St → XK} {S0 S T : Wd} {te ta tb tc tl : TE} {tt uu : TT} {t u : TS} {Γ : Ctx} {k k' : D → Prop} {kx : Addr → D → Prop} {P : Po} {kl : List D → Prop} {ko : O → Prop} {al : TA} {C : Addr}
/-- xs[i] op= e, xs a list of one's own -/
theorem sc_augItem {i : Nat} {ds : List D} {ti : TE} {f : Int → Int → Int} (h : Γ[i]? = some (.own ds))
    (hi : EC K E ti Γ (fun y => ∃ (z : Int) (j : Nat) (x : Int), y = .int z ∧ ixN ds.length z = some j ∧ ds[j]? = some (.int x) ∧ EC K E te Γ (fun d => ∃ w, d = .int w ∧ P.nx (Γ.set i (.own (ds.set j (.int (f x w)))))) (P.kx Γ)) (P.kx Γ)) :
    SC K E (tAugS (tVar i) ti te (rIxL K) (ipI f) rSetL) Γ P := fun S0 S σ D g e G => by
  obtain ⟨l, xs, h1, h2, h3, h4, h0, r⟩ := e.own i ds h
  refine ⟨_, h1, ?_⟩
  refine hi S0 S σ _ e (fun T w y g2 r2 ⟨z, j, x, ey, hj, hx, h5⟩ => ?_) (G.kx S σ Γ g (Le.refl S) e)
  subst ey
  have hp2 := g2.hp _ _ h2 h4
  obtain ⟨v, ev, rv⟩ := (r.mono g2.le).get hx
  refine ⟨l, xs, z, v, rfl, r2.int, SqL.of hp2, ?_, ?_⟩
  · unfold atI
    rw [r.length, hj]
    exact ev
  refine h5 S0 T σ _ (e.gr g2) (fun U w2 y2 g3 r3 ⟨n, ey, kd⟩ => ?_) (G.kx T σ Γ (g.trans g2) g2.le (e.gr g2))
  subst ey
  have g4 := g2.trans g3
  obtain ⟨e3, l3, g5⟩ := (e.gr g4).change (es := ds.set j (.int (f x n))) (ys := xs.set j (.int (f x n))) h h1 (RpL.set (by unfold Rp; rfl) j (r.mono g4.le))
  refine ⟨x, n, rv.int, r3.int, l, xs, z, j, rfl, r2.int, g4.hp _ _ h2 h4, by rw [r.length]; exact hj, ?_⟩
  exact G.nx _ σ _ (g5 (g.trans g4)) (g4.le.trans l3) e3 kd
/-- isinstance(x, (A, B)) -/
theorem ec_isiT2 {A B : String} (h : EC K E ta Γ (fun d => ∃ t b c, d.kind = some t ∧ kitB t A = some b ∧ kitB t B = some c ∧ k (.bl (b || c))) kx) : EC K E (tCB (rIsiT K) (tCons ta (tCons (tTup (tCons (tC (.ty A)) (tCons (tC (.ty B)) tNil))) tNil))) Γ k kx := fun S0 S σ Q e q x =>
  h S0 S σ _ e (fun T v d g r ⟨t, b, c, hk, h1, h2, kd⟩ => ⟨by show 2 ≤ sizeLine; rw [sizeLine_eq]; decide, fun p hn => by
    have g2 := Gr.lay g.ok hn (.tup [.ty A, .ty B])
    have ty := D.tyx g2.ok (r.mono g2.le) hk
    refine ⟨v, p, _, _, [.type A, .type B], b || c, rfl, upd_same, .cons (.ty A) (.cons (.ty B) .nil), ty, ?_, q _ _ _ (g.trans g2) (by unfold Rp; rfl) kd⟩
    refine kitAny_cons (kit_ty h1) (fun hb => ?_) (fun hb => by rw [hb]; rfl)
    refine kitAny_cons (kit_ty h2) (fun hc => ?_) (fun hc => by rw [hc, Bool.or_true])
    rw [hb, hc]
    rfl⟩) x
/-- tuple(xs) -/
theorem ec_tupOf (h : EL K E ta Γ (fun ds => k (.tup ds)) kx) : EC K E (tCB (zTup K) (tCons ta tNil)) Γ k kx :=
  ec_cb1 (h.mono fun ds hk S Q p xs ok hp r q => ⟨p, xs, rfl, SqL.of hp, fun l hn => by
    have g := Gr.lay ok hn (.tup xs)
    refine q _ _ _ g ?_ hk
    unfold Rp
    exact ⟨l, xs, rfl, SqT.of upd_same, r.mono g.le⟩⟩)
/-- list(range(n)) -/
theorem rgV_eq (n : Int) : rgV 0 n = ((List.range n.toNat).map fun i : Nat => (i : Int)).map V.int := by
  unfold rgV
  rw [List.map_map, Int.sub_zero]
  apply List.map_congr_left
  intro i _
  show V.int (0 + (i : Int)) = V.int (i : Int)
  rw [Int.zero_add]
theorem en_listRg (h : EC K E ta Γ (fun d => ∃ n : Int, d = .int n ∧ (0 ≤ n ∧ n ≤ 1000000) ∧ kl (((List.range n.toNat).map fun i : Nat => (i : Int)).map D.int)) kx) : EN K E (tLstRg (tRg1 ta)) Γ kl kx := fun S0 S σ Q e q x =>
  h S0 S σ _ e (fun T v d g r ⟨n, ed, hn, kd⟩ => by
    subst ed
    refine ⟨n, r.int, RgOk.of_le (by decide) (by omega) (by decide) hn.1, fun p hp => ?_⟩
    have g2 := Gr.layO g.ok hp (.lst (rgV 0 n))
    refine q ⟨T.F, upd T.H p (.lst (rgV 0 n)), T.M⟩ p _ _ (g.trans g2) (g.new hp) upd_same (g.ok.fnone hp) (g.ok.mnone hp) ?_ kd
    rw [rgV_eq]
    exact RpL.of_ints _) x
/-- a comprehension of new lists -/
theorem ew_lcN {wi : TI} {g : TG} {vs : List Nat} (h : EI K E wi Γ (fun ds => ds.length ≤ 1000000 ∧ ∃ f : Nat → List D, (∀ (i : Nat) d, ds[i]? = some d → GW K vs g d (wipeC Γ vs) fun Δ => EN K ES0 te Δ (fun es => es = f i) F0) ∧ ko (rowsO ((List.range ds.length).map f))) kx) : EW K E (tLc wi g tYes te vs) Γ ko kx := fun S0 S σ Q e q x =>
  h S0 S σ _ e (fun T J ds g2 w ⟨hz, f, hs, hd⟩ Dp hn => by
    have eT := env_wipe (e.gr g2) vs
    have fresh := Gr.layO g2.ok hn (.lst [])
    refine ⟨fun i m H => ∃ (U : Wd) (xs : List V) (A : List Addr), U.H = H ∧ Gr T U ∧ U.H Dp = some (.lst xs) ∧ Own T U Dp ∧ OwL K T U (((List.range i).map f).map fun r => O.lst (r.map .fz)) xs A ∧ (Dp :: A).Nodup ∧ i ≤ ds.length ∧ m = ds.length - i,
      ⟨_, ⟨T.F, upd T.H Dp (.lst []), T.M⟩, [], [], rfl, fresh, upd_same, ⟨g2.ok.fnone hn, g2.ok.mnone hn, hn⟩, OwL.nil, nodup1, Nat.zero_le _, rfl⟩, ?_⟩
    rintro i m H ⟨U, xs, A, rfl, gU, hD, wD, rA, nd, hi, rfl⟩
    by_cases hlt : i < ds.length
    · refine .inr ⟨w.go U i gU.ok gU.le hlt, fun H => ∃ (U : Wd) (xs : List V) (A : List Addr), U.H = H ∧ Gr T U ∧ U.H Dp = some (.lst xs) ∧ Own T U Dp ∧ OwL K T U (((List.range (i + 1)).map f).map fun r => O.lst (r.map .fz)) xs A ∧ (Dp :: A).Nodup, ?_, fun y H' hy => ?_⟩
      · rintro H2 ⟨U2, xs2, A2, e2, a, b, c, d, n⟩
        exact ⟨ds.length - (i + 1), by omega, U2, xs2, A2, e2, a, b, c, d, n, hlt, rfl⟩
      · obtain ⟨U1, d, rfl, g1, ed, rd⟩ := w.yld U i y H' gU.ok gU.le hlt hy
        have gT1 := gU.trans g1
        refine hs i d ed S0 U1 (wipe σ vs) y _ (eT.gr gT1) rd fun τ Δ hw e2 h2 => ⟨hw.trans wipe_idem, ?_⟩
        show te τ U1.H _
        refine h2 S0 U1 τ _ e2 (fun U3 p ys es g3 hnp hp hf hm r ek => ?_) xp0
        subst ek
        have g13 := g1.trans g3
        have gT3 := gU.trans g13
        have keep : Keeps T U U3 (Dp :: A) := Keeps.gr g13
        have hD3 := keep.hp Dp List.mem_cons_self wD _ hD
        have wD3 := keep.ow Dp List.mem_cons_self wD ⟨_, hD⟩
        have rA3 := rA.keeps (keep.sub fun a ha => List.mem_cons_of_mem _ ha)
        have old : ∀ a ∈ Dp :: A, a ≠ p := fun a ha z => by
          subst z
          have : ∃ u, U.H a = some u := by
            rcases List.mem_cons.mp ha with z | z
            · rw [z]; exact ⟨_, hD⟩
            · exact (rA.there a z).2
          obtain ⟨u, hu⟩ := this
          obtain ⟨u', hu'⟩ := g1.there hu
          rw [hnp] at hu'
          cases hu'
        have npT : T.H p = none := gT1.new hnp
        have hl : xs.length < 1000000 := by
          have := rA.length
          rw [List.length_map, List.length_map, List.length_range] at this
          omega
        refine ⟨xs, hD3, bigL hl, ⟨U3.F, upd U3.H Dp (.lst (xs ++ [.ref p])), U3.M⟩, xs ++ [.ref p], A ++ [p], rfl, gT3.change hn wD3.f wD3.m _, upd_same, ⟨wD3.f, wD3.m, wD3.n⟩, ?_, ?_⟩
        · rw [List.range_succ, List.map_append, List.map_append]
          refine OwL.append (rA3.keeps (Keeps.chg (List.nodup_cons.mp nd).1)) (OwL.cons (A := [p]) (B := []) ?_ OwL.nil)
          unfold Ow
          refine ⟨p, ys, [], rfl, rfl, ?_, ⟨hf, hm, npT⟩, OwL.of_fz (r.mono (Le.chg U3 Dp _))⟩
          show upd U3.H Dp _ p = _
          rw [upd_ne (Ne.symm (old Dp List.mem_cons_self))]
          exact hp
        · rw [List.nodup_cons] at nd ⊢
          refine ⟨fun z => ?_, List.nodup_append.mpr ⟨nd.2, nodup1, fun a ha b hb z => ?_⟩⟩
          · rcases List.mem_append.mp z with z | z
            · exact nd.1 z
            · exact old Dp List.mem_cons_self (List.mem_singleton.mp z)
          · rw [List.mem_singleton.mp hb] at z
            exact old a (List.mem_cons_of_mem _ ha) z
    · have ei : i = ds.length := by omega
      subst ei
      refine .inl ⟨w.stop U _ gU.ok gU.le (Nat.le_refl _), q U _ (rowsO ((List.range ds.length).map f)) (Dp :: A) (g2.trans gU) ?_ nd hd⟩
      unfold rowsO Ow
      exact ⟨Dp, xs, A, rfl, rfl, hD, ⟨wD.f, wD.m, g2.new wD.n⟩, rA.base fun a ha => g2.new ha⟩) x
end
/-! ### __init__ -/
section
variable {P : Program} {w : World} {K : PySem.W.Frag} {mg : Str → Option Value} {base : Heap}
theorem okI {x qual n : Str} {st : Stmt} {f C : Addr} {fd : FuncData} {N ps : List Str} {k : Nat} {wp : WPI} {dvs : List V} {kws : List (Str × V)} (F : FunD K x qual (defArgs st) (defBody st) (defScope st) dvs kws f fd) (S : FnScope (n :: N) (n :: ps) (defScope st)) (len : ∀ ds q kx, wp ds q kx → ds.length = ps.length)
    (body : ∀ (cdv : Value) (A : Around) (outer : List Env) (s : Shared) (H : Hp) (E : XK), Room k (A.deeper (envOfC qual (defScope st) s.heap.objs.size f cdv)) →
      ∃ t, PSs (cxOf (L2.CX P w) P w K mg base (n :: N) qual (defScope st) f cdv A outer s H E) (defBody st) t ∧ ∀ ds q kx, wp ds q kx → ∀ x : Addr, SC K (fun _ => E) t (startI (N.length + 1) x C ds) { nx := fun Δ => ∃ ns os, Δ[0]? = some (.tre (.ins x C ns os)) ∧ q (.ins x C ns os), kx := fun _ => kx }) : FnOk P w K mg base (L2.CX P w) (k + 1) f fd (n :: ps) (spI K C wp) := by
  refine F.ok S (fun vs H Q E h => ?_) (fun cdv A outer s H vs Q E hr h => ?_)
  · obtain ⟨T, y, dy, ws, ds, q, kx, _, _, _, _, _, rfl, r, hw, _⟩ := h
    rw [List.length_cons, r.length, len ds q kx hw]
    rfl
  · obtain ⟨T, y, dy, ws, ds, q, kx, ok, hy, hdy, ne, rfl, rfl, r, hw, hQ, hx⟩ := h
    obtain ⟨g, e⟩ := env_startI (C := C) (n := n) (N := N) ok hy hdy ne r
    obtain ⟨t, ht, hb⟩ := body cdv A outer s _ E hr
    refine ⟨t, ht, hb ds q kx hw y T _ _ _ g e ⟨fun U τ Δ g2 l2 e2 ⟨ns, os, ho, hq⟩ => ?_, fun _ _ _ _ _ h => h.elim, fun _ _ _ _ _ _ _ _ _ _ h => h.elim, fun _ _ _ _ _ _ _ h => h.elim, fun _ _ _ _ _ _ h => h.elim, fun _ _ _ _ _ _ h => h.elim, fun U τ Δ g2 l2 e2 => hx.gr g2⟩⟩
    obtain ⟨v, A2, h1, ro, nd⟩ := e2.tre 0 _ ho
    have ev : v = .ref y := by
      unfold Ow at ro
      obtain ⟨_, _, _, _, e, _⟩ := ro
      exact e
    subst ev
    exact hQ U _ A2 g2 ro nd hq
end
end Z

namespace Z
open PySem PySem.Spec PyProof.Rows L2
/-! ### defs that show data: no repr is under way where they are called -/
structure FnG (P : Program) (w : World) (K : PySem.W.Frag) (mg : Str → Option Value) (base : Heap) (k : Nat) (f : Addr) (fd : FuncData) (ps : List Str) (sp : Sp) : Prop where
  len : ∀ vs H Q E, sp vs H Q E → vs.length = ps.length
  run : ∀ (A : Around) (outer : List Env) (s : Shared) (H : Hp) (args : Args) (us : List Value) (vs : List V) (Q : VK) (E : XK), Room k A → A.guards = some [] → Env0 P w K mg base A outer s H → BindsTo s fd args (ps.zip us) → Vals vs us → sp vs H Q E →
    codeAny (model P w) A (.call (.ref f) args) (CR (L2.CX P w) outer P w H s Q E) s
section
variable {P : Program} {w : World} {K : PySem.W.Frag} {mg : Str → Option Value} {base : Heap}
theorem fnG_of {x qual : Str} {st : Stmt} {f : Addr} {fd : FuncData} {N ps : List Str} {k : Nat} {sp : Sp} (F : Fun K x qual st f fd) (S : FnScope N ps (defScope st)) (len : ∀ vs H Q E, sp vs H Q E → vs.length = ps.length)
    (hbody : ∀ (cdv : Value) (A : Around) (outer : List Env) (s : Shared) (H : Hp) (vs : List V) (Q : VK) (E : XK), PySem.W.codeIn K cdv qual = true → Room k (A.deeper (envOfC qual (defScope st) s.heap.objs.size f cdv)) → A.guards = some [] → sp vs H Q E →
      ∃ t, PSs (cxOf (L2.CX P w) P w K mg base N qual (defScope st) f cdv A outer s H E) (defBody st) t ∧ t { nx := fun _ H' => Q .non H', rt := Q } (L2.start N vs) H) : FnG P w K mg base (k + 1) f fd ps sp := by
  obtain ⟨oc, od, kV, doc, pm, an, cdv, ct, osl, rfl, lk, hcd⟩ := F.ex
  refine ⟨len, fun A outer s H args us vs Q E hr hg e0 hb r h => ?_⟩
  exact LamX.run_ofS lk hcd S hr e0 hb r (len _ _ _ _ h) fun hr' => hbody cdv A outer s H vs Q E hcd hr' hg h
theorem okDG {x qual : Str} {st : Stmt} {f : Addr} {fd : FuncData} {N ps : List Str} {k : Nat} {wp : WP} (F : Fun K x qual st f fd) (S : FnScope N ps (defScope st)) (len : ∀ ds q kx, wp ds q kx → ds.length = ps.length)
    (body : ∀ (cdv : Value) (A : Around) (outer : List Env) (s : Shared) (H : Hp) (E : XK), Room k (A.deeper (envOfC qual (defScope st) s.heap.objs.size f cdv)) → A.guards = some [] →
      ∃ t, PSs (cxOf (L2.CX P w) P w K mg base N qual (defScope st) f cdv A outer s H E) (defBody st) t ∧ ∀ ds q kx, wp ds q kx → SC K (fun _ => E) t (start N.length ds) { nx := fun _ => q .non, rt := q, rn := fun es => q (.lst es), kx := fun _ => kx }) : FnG P w K mg base (k + 1) f fd ps (spD K wp) := by
  refine fnG_of F S (fun vs H Q E h => ?_) (fun cdv A outer s H vs Q E hcd hr hg h => ?_)
  · obtain ⟨T, ds, q, kx, _, _, r, hw, _⟩ := h
    rw [r.length]
    exact len ds q kx hw
  · obtain ⟨T, ds, q, kx, ok, eH, r, hw, hQ, hx⟩ := h
    subst eH
    obtain ⟨t, ht, hb⟩ := body cdv A outer s T.H E hr hg
    refine ⟨t, ht, hb ds q kx hw T T _ _ (Gr.refl ok) (env_start ok r) ⟨fun U τ Δ g _ _ h => hQ U .non .non g (by unfold Rp; rfl) h, fun U v d g r h => hQ U v d g r h, fun U p xs es g a b c d r h => hQ ⟨upd U.F p (.lst xs), U.H, U.M⟩ _ (.lst es) (g.freeze a b d) (by
      unfold Rp
      exact ⟨p, xs, rfl, upd_same, r.mono (Le.freeze c)⟩) h, fun _ _ _ _ _ _ _ h => h.elim, fun _ _ _ _ _ _ h => h.elim, fun _ _ _ _ _ _ h => h.elim, fun U τ Δ g l e => hx.gr g⟩⟩
end
/-- a def that may be called where nothing is being shown -/
structure CalG (P : Program) (w : World) (K : PySem.W.Frag) (mg : Str → Option Value) (base : Heap) (x : Str) (k : Nat) (ps : List Str) (sp : Sp) : Prop where
  ex : ∃ (f : Addr) (fd : FuncData), FnG P w K mg base k f fd ps sp ∧ mg x = some (.ref f) ∧ PySem.W.keepIn K (.ref f) = true ∧ Binds K fd ps []
theorem CalG.of {P : Program} {w : World} {K : PySem.W.Frag} {mg : Str → Option Value} {base : Heap} {x qual : Str} {st : Stmt} {f : Addr} {fd : FuncData} {k : Nat} {ps : List Str} {sp : Sp} (F : Fun K x qual st f fd) (g : mg x = some (.ref f)) (b : Binds K fd ps []) (h : FnG P w K mg base k f fd ps sp) :
    CalG P w K mg base x k ps sp := ⟨f, fd, h, g, F.kp, b⟩
section
variable {X : Cx} {k : Nat} {ps : List Str} {sp : Sp} {E : L2.St → XK} {x : Str} {p pos : Pos} {e : Expr} {es : List Expr} {t : TA}
theorem pe_callGE (C : CalG X.prog X.w X.K X.mg X.base x k ps sp) (hg : Gl X x) (gd : X.A.guards = some []) (hr : Room k X.A) (hx : ∀ σ, PassesAt (L2.CX X.prog X.w) X σ (E σ))
    (ha : PA X (e :: es) t) (hdb : (x == ("__debug__" : Str)) = false := by decide) (he : starEach (e :: es) X.env = (false, eval e X.env) :: starEach es X.env := by rfl) (hpl : (backTo pos (starEach es X.env)).any (·.1) = false := by rfl) :
    PE X (.Call (.Name x p) (e :: es) [] pos) (tCallSD sp [] E t) := by
  obtain ⟨f, fd, F, hm, hk, hb⟩ := C.ex
  refine ⟨fun pins s σ H Q I h => ?_⟩
  refine wpAny_Call_Name_kw (ld_glob I hg hm ?_ hdb)
  refine PySem.W.callWith_K (h₀ := X.base) I.ok.mod.kin hk (thn (ha.run pos pins s σ H _ I h) fun us s1 ⟨vs, H1, I1, r, q⟩ => ⟨I1.kIn, ?_⟩) he hpl
  dsimp only at q
  rw [List.append_nil] at q
  have hl : (us ++ []).length = ps.length := by
    rw [List.append_nil, ← r.length]
    exact F.len _ _ _ _ q
  have hb1 := hb s1 us I1.kIn hl
  rw [List.append_nil] at hb1
  refine wpAny_call (codeAny_mono (F.run X.A X.stack s1 H1 ⟨us, []⟩ us vs Q (E σ) hr gd I1.env0 hb1 r q) fun r' s' hq => ?_)
  cases r' with
  | error er => exact hx σ pins H1 s1 er s' I1 hq
  | ok fl =>
    cases fl with
    | ret u => exact I1.after hq
    | next => exact hq.elim
    | brk => exact hq.elim
    | cont => exact hq.elim
theorem pe_callG (C : CalG X.prog X.w X.K X.mg X.base x k ps sp) (gd : X.A.guards = some []) (hr : Room k X.A) (hg : Gl X x) (ha : PA X (e :: es) t) (hdb : (x == ("__debug__" : Str)) = false := by decide) (he : starEach (e :: es) X.env = (false, eval e X.env) :: starEach es X.env := by rfl) (hpl : (backTo pos (starEach es X.env)).any (·.1) = false := by rfl) :
    PE X (.Call (.Name x p) (e :: es) [] pos) (tCallSD sp [] ES0 t) := pe_callGE C hg gd hr passA0 ha hdb he hpl
end
/-! ### the end: the law is called -/
section
variable {P : Program} {w : World} {K : PySem.W.Frag} {mg mb : Str → Option Value} {k : Nat} {fa a : Addr} {cs : List (Addr × Addr)} {fd : FuncData} {x : Str} {sp : Sp} {s₁ : Shared} {vs : List Value} {ns : List Int}
/-- what is tracked ahead of the call: the script (unless it is written) and the tables -/
structure Ahead (K : PySem.W.Frag) (a : Addr) (cs : List (Addr × Addr)) (H : Hp) : Prop where
  tb : ∀ p ∈ cs, H p.2 = some (.tbl #[])
  only : ∀ b, H b = none ∨ b ∈ cs.map (·.2) ∨ ∃ o xs, H b = some (.frz o (.lst xs))
  who : ∀ b, H b ≠ none → b = a ∨ b ∈ cs.map (·.2)
  scr : H a ≠ none → K.lookup a = none
theorem law_at (KX : K.In s₁.heap) (hns : s₁.heap.Ns mainGlobals mg) (hb : s₁.heap.Ns builtinsNs mb) (hbb : ∀ x : Str, x ≠ "__name__" → mb x = bootBuiltins x) (hlim : s₁.heap.NoLimit) (hg : s₁.gens = #[])
    (hT : ∀ p ∈ cs, s₁.heap.get? p.2 = some { cls := .none, data := .fields #[] }) (nT : ∀ p ∈ cs, K.lookup p.2 = none) (C : ∀ p ∈ cs, PySem.W.CodeHd s₁.heap p.1 p.2)
    (hbm : ∃ (bm : Addr) (ob : Obj), mg "__builtins__" = some (.ref bm) ∧ bm ≠ builtinsNs ∧ s₁.heap.get? bm = some ob ∧ ob.cls = .type "module" ∧ ob.dict = some builtinsNs ∧ ob.data = .plain)
    (ha : s₁.heap.get? a = some { cls := .type "list", data := .seq vs.toArray }) (hr : Room k callerA)
    (F : ∀ base : Heap, K.In base → base.Ns mainGlobals mg → (∀ p ∈ cs, LamX.TabB base mg p.1 p.2) → FnG P w K mg base k fa fd [x] sp) (hbind : ∀ (s : Shared) (u : Value), BindsTo s fd ⟨[u], []⟩ [(x, u)])
    {H : Hp} (AH : Ahead K a cs H) (hok : HOk P w H s₁.heap) (hsp : sp [.ref a] H (fun v _ => v = .bl true) fun _ _ _ => False) :
    codeAny (model P w) callerA (.call (.ref fa) ⟨[.ref a], []⟩) (fun r s' => r = .ok (.ret (.bool true)) ∧ OldK s₁.heap s'.heap ∧ s'.os = s₁.os ∧ AllBare s'.gens) s₁ := by
  have tabO : ∀ b : Addr, b ∈ cs.map (·.2) → s₁.heap.get? b = some { cls := .none, data := .fields #[] } := fun b hb => by
    obtain ⟨p, hp, rfl⟩ := List.mem_map.mp hb
    exact hT p hp
  have free : ∀ {b : Addr} {o : Obj}, s₁.heap.get? b = some o → (∀ us n, o.data ≠ .seq us n) → o.data ≠ .fields #[] → H b = none := fun {b o} e h1 h2 => by
    cases q : H b with
    | none => rfl
    | some u =>
      rcases AH.who b (by rw [q]; exact fun z => nomatch z) with rfl | m
      · rw [ha] at e
        cases e
        exact absurd rfl (h1 _ _)
      · rw [tabO b m] at e
        cases e
        exact absurd rfl h2
  have freeD : ∀ {b : Addr} {o : Obj} {es : Array DictEntry} {ep : Nat}, s₁.heap.get? b = some o → o.data = .dict es ep → H b = none := fun {b o es ep} e dd =>
    free e (fun us n z => by rw [dd] at z; cases z) fun z => by rw [dd] at z; cases z
  have nsB : ∀ {b : Addr} {m : Str → Option Value}, s₁.heap.Ns b m → (hidT s₁.heap H).Ns b m := fun {b m} h => by
    obtain ⟨o, es, ep, e, dd, r⟩ := h
    exact ⟨o, es, ep, hidT_get e (freeD e dd), dd, r⟩
  have inB : K.In (hidT s₁.heap H) := fun b o e => by
    refine hidT_get (KX b o e) ?_
    cases q : H b with
    | none => rfl
    | some u =>
      rcases AH.who b (by rw [q]; exact fun z => nomatch z) with rfl | m
      · rw [AH.scr (by rw [q]; exact fun z => nomatch z)] at e
        cases e
      · obtain ⟨p, hp, rfl⟩ := List.mem_map.mp m
        rw [nT p hp] at e
        cases e
  have modB : L2.Mod K mg (hidT s₁.heap H) := by
    refine ⟨inB, nsB hns, ⟨mb, nsB hb, hbb⟩, ?_⟩
    obtain ⟨mc, h1, h2⟩ := hlim
    exact ⟨mc, nsB h1, h2⟩
  have tabB : ∀ p ∈ cs, LamX.TabB (hidT s₁.heap H) mg p.1 p.2 := fun p hp => by
    refine ⟨?_, ?_, fun z => ?_⟩
    · obtain ⟨o, us, file, tf, flags, tg, inF, text, tt, e1, r1, r2, r3, rest⟩ := C p hp
      refine ⟨o, us, file, tf, flags, tg, inF, text, tt, hidT_get e1 (free e1 (fun vs n z => ?_) fun z => ?_), r1, r2, r3, rest⟩
      · rw [r2] at z
        cases z
      · rw [r2] at z
        cases z
        simp at r3
    · obtain ⟨bm, ob, b1, b2, b3, b4, b5, b6⟩ := hbm
      refine ⟨bm, ob, b1, b2, fun z => ?_, fun z => ?_, hidT_get b3 (free b3 (fun vs n z => ?_) fun z => ?_), b4, b5, b6⟩
      · obtain ⟨o, es, ep, e, dd, _⟩ := hns
        rw [z, e] at b3
        cases b3
        rw [dd] at b6
        cases b6
      · rw [z, hT p hp] at b3
        cases b3
        cases b6
      · rw [b6] at z
        cases z
      · rw [b6] at z
        cases z
    · obtain ⟨o, es, ep, e, dd, _⟩ := hns
      rw [z, hT p hp] at e
      cases e
      cases dd
  have e0 : Env0 P w K mg (hidT s₁.heap H) callerA [] s₁ H := by
    refine ⟨rfl, modB, fun b o e => of_hidT e, Nat.le_of_eq (hidT_size _ _), trivial, fun b hb => ?_, hok, .of_eq hg⟩
    have hb' : b ∈ ([] : List Addr) := hb
    cases hb'
  refine codeAny_mono ((F _ inB (nsB hns) tabB).run callerA [] s₁ H ⟨[.ref a], []⟩ [.ref a] [.ref a] _ _ hr rfl e0 (hbind s₁ (.ref a)) (.cons rfl .nil) hsp) fun r s' h => ?_
  cases r with
  | error e =>
    obtain ⟨_, _, _, _, _, _, _, _, _, _, _, _, z⟩ := h
    exact z.elim
  | ok fl =>
    cases fl with
    | next => exact h.elim
    | brk => exact h.elim
    | cont => exact h.elim
    | ret u =>
      obtain ⟨v, H', os, bare, un, hok', r', q⟩ := h
      obtain rfl : v = .bl true := q
      obtain rfl : u = Value.bool true := r'
      have kept : ∀ b o, b ∉ cs.map (·.2) → s₁.heap.get? b = some o → s'.heap.get? b = some o := fun b o nb e => by
        rcases AH.only b with z | z | ⟨ob, xs, z⟩
        · exact un.keep b o e z (fun y => by have y' : b ∈ ([] : List Addr) := y; cases y') (by simp)
        · exact absurd z nb
        · obtain ⟨e1, _⟩ := hok b _ z
          obtain ⟨e2, _⟩ := hok' b _ (un.frzs b ob _ z)
          rw [e] at e1
          cases e1
          exact e2
      have more : ∀ p ∈ cs, ∃ ms : Array Value, s'.heap.get? p.2 = some { cls := .none, data := .fields ms } := fun p hp => by
        obtain ⟨ms, z⟩ := un.tbls p.2 #[] (AH.tb p hp)
        exact ⟨_, hok' p.2 _ z⟩
      refine ⟨rfl, ⟨fun b o e => ?_, fun b o e => ?_⟩, os, bare⟩ <;> by_cases hb : b ∈ cs.map (·.2)
      · obtain ⟨p, hp, rfl⟩ := List.mem_map.mp hb
        obtain ⟨ms, hm⟩ := more p hp
        rw [hT p hp] at e
        cases e
        refine .inr (.inl ⟨((C p hp).tab (hT p hp)).isCodeTable, rfl, #[], ms, rfl, ?_⟩)
        rw [Array.empty_append]
        exact hm
      · exact .inl (kept b o hb e)
      · obtain ⟨p, hp, rfl⟩ := List.mem_map.mp hb
        obtain ⟨ms, hm⟩ := more p hp
        exact ⟨_, hm⟩
      · exact ⟨o, kept b o hb e⟩
/-- at the head's heap -/
theorem law_go (KX : K.In s₁.heap) (hns : s₁.heap.Ns mainGlobals mg) (hb : s₁.heap.Ns builtinsNs mb) (hbb : ∀ x : Str, x ≠ "__name__" → mb x = bootBuiltins x) (hlim : s₁.heap.NoLimit) (hg : s₁.gens = #[])
    (hT : ∀ p ∈ cs, s₁.heap.get? p.2 = some { cls := .none, data := .fields #[] }) (nT : ∀ p ∈ cs, K.lookup p.2 = none) (C : ∀ p ∈ cs, PySem.W.CodeHd s₁.heap p.1 p.2)
    (hbm : ∃ (bm : Addr) (ob : Obj), mg "__builtins__" = some (.ref bm) ∧ bm ≠ builtinsNs ∧ s₁.heap.get? bm = some ob ∧ ob.cls = .type "module" ∧ ob.dict = some builtinsNs ∧ ob.data = .plain)
    (ha : s₁.heap.get? a = some { cls := .type "list", data := .seq vs.toArray }) (hi : IntsAre vs ns) (hl : ns.length ≤ sizeLine) (hr : Room k callerA)
    (F : ∀ base : Heap, K.In base → base.Ns mainGlobals mg → (∀ p ∈ cs, LamX.TabB base mg p.1 p.2) → FnG P w K mg base k fa fd [x] sp) (hbind : ∀ (s : Shared) (u : Value), BindsTo s fd ⟨[u], []⟩ [(x, u)])
    (hsp : ∀ H : Hp, (∀ p ∈ cs, H p.2 = some (.tbl #[])) → (∀ b o, H b = some o → NoCode o) → SqL K H a (ns.map V.int) → sp [.ref a] H (fun v _ => v = .bl true) fun _ _ _ => False) :
    codeAny (model P w) callerA (.call (.ref fa) ⟨[.ref a], []⟩) (fun r s' => r = .ok (.ret (.bool true)) ∧ OldK s₁.heap s'.heap ∧ s'.os = s₁.os ∧ AllBare s'.gens) s₁ := by
  have rv := vals_ints hi
  have tabO : ∀ b : Addr, b ∈ cs.map (·.2) → s₁.heap.get? b = some { cls := .none, data := .fields #[] } := fun b hb => by
    obtain ⟨p, hp, rfl⟩ := List.mem_map.mp hb
    exact hT p hp
  have aT : a ∉ cs.map (·.2) := fun z => by
    have q := tabO a z
    rw [ha] at q
    have z' : Data.seq vs.toArray _ = Data.fields #[] := congrArg Obj.data (Option.some.inj q)
    cases z'
  have memT : ∀ p ∈ cs, p.2 ∈ cs.map (·.2) := fun p hp => List.mem_map.mpr ⟨p, hp, rfl⟩
  cases hk : K.lookup a with
  | some o =>
    have e := KX a o hk
    rw [ha] at e
    cases e
    let H : Hp := fun b => if b ∈ cs.map (·.2) then some (.tbl #[]) else none
    have inH : ∀ {b}, b ∈ cs.map (·.2) → H b = some (.tbl #[]) := fun h => if_pos h
    have outH : ∀ {b}, b ∉ cs.map (·.2) → H b = none := fun h => if_neg h
    refine law_at (H := H) KX hns hb hbb hlim hg hT nT C hbm ha hr F hbind ⟨fun p hp => inH (memT p hp), fun b => ?_, fun b z => ?_, fun z => absurd (outH aT) z⟩ (fun b u z => ?_) (hsp H (fun p hp => inH (memT p hp)) (fun b o z => ?_) (.inr ⟨_, vs.toArray, _, hk, rfl, rfl, rfl, ?_, by simpa using rv⟩))
    · by_cases m : b ∈ cs.map (·.2)
      · exact .inr (.inl m)
      · exact .inl (outH m)
    · by_cases m : b ∈ cs.map (·.2)
      · exact .inr m
      · exact absurd (outH m) z
    · by_cases m : b ∈ cs.map (·.2)
      · rw [inH m] at z
        cases z
        exact tabO b m
      · rw [outH m] at z
        cases z
    · by_cases m : b ∈ cs.map (·.2)
      · rw [inH m] at z
        cases z
        intro _ _ z
        unfold LamX.CodeO at z
        cases z
      · rw [outH m] at z
        cases z
    · rw [List.size_toArray, hi.length]
      exact hl
  | none =>
    let H : Hp := fun b => if b = a then some (.frz { cls := .type "list", data := .seq vs.toArray } (.lst (ns.map V.int))) else if b ∈ cs.map (·.2) then some (.tbl #[]) else none
    have atA : H a = some (.frz { cls := .type "list", data := .seq vs.toArray } (.lst (ns.map V.int))) := if_pos rfl
    have inH : ∀ {b}, b ∈ cs.map (·.2) → H b = some (.tbl #[]) := fun {b} h => (if_neg (fun z : b = a => aT (z ▸ h))).trans (if_pos h)
    have outH : ∀ {b}, b ≠ a → b ∉ cs.map (·.2) → H b = none := fun n h => (if_neg n).trans (if_neg h)
    refine law_at (H := H) KX hns hb hbb hlim hg hT nT C hbm ha hr F hbind ⟨fun p hp => inH (memT p hp), fun b => ?_, fun b z => ?_, fun _ => hk⟩ (fun b u z => ?_) (hsp H (fun p hp => inH (memT p hp)) (fun b o z => ?_) (.inl (.inr ⟨_, atA⟩)))
    · by_cases n : b = a
      · rw [n]
        exact .inr (.inr ⟨_, _, atA⟩)
      · by_cases m : b ∈ cs.map (·.2)
        · exact .inr (.inl m)
        · exact .inl (outH n m)
    · by_cases n : b = a
      · exact .inl n
      · by_cases m : b ∈ cs.map (·.2)
        · exact .inr m
        · exact absurd (outH n m) z
    · by_cases n : b = a
      · rw [n, atA] at z
        cases z
        rw [n]
        exact ⟨ha, by rw [List.length_map]; exact hl, vs, _, rv, ha⟩
      · by_cases m : b ∈ cs.map (·.2)
        · rw [inH m] at z
          cases z
          exact tabO b m
        · rw [outH n m] at z
          cases z
    · have nc : ∀ c q, o ≠ LamX.CodeO c q := fun c q y => by
        by_cases n : b = a
        · rw [n, atA] at z
          cases z
          unfold LamX.CodeO at y
          cases y
        · by_cases m : b ∈ cs.map (·.2)
          · rw [inH m] at z
            cases z
            unfold LamX.CodeO at y
            cases y
          · rw [outH n m] at z
            cases z
      exact nc
end
/-- what is known of the law at the head's heap -/
def LawG (l : PySem.W.OpenLaw) (w : World) (K : PySem.W.Frag) (k n : Nat) (x : Str) (mg : Str → Option Value) (fa : Addr) (h : Heap) : Prop :=
  ∃ (fd : FuncData) (cs : List (Addr × Addr)) (sp : Sp), (∀ p ∈ cs, h.get? p.2 = some { cls := .none, data := .fields #[] }) ∧ (∀ p ∈ cs, K.lookup p.2 = none) ∧ (∀ p ∈ cs, PySem.W.CodeHd h p.1 p.2) ∧ (∀ (s : Shared) (u : Value), BindsTo s fd ⟨[u], []⟩ [(x, u)]) ∧
    (∀ (H : Hp) (a : Addr) (ns : List Int), ns.length ≤ n → (∀ p ∈ cs, H p.2 = some (.tbl #[])) → (∀ b o, H b = some o → NoCode o) → SqL K H a (ns.map V.int) → sp [.ref a] H (fun v _ => v = .bl true) fun _ _ _ => False) ∧
    ∀ base : Heap, K.In base → base.Ns mainGlobals mg → (∀ p ∈ cs, LamX.TabB base mg p.1 p.2) → FnG l.prog w K mg base k fa fd [x] sp
theorem walk_G {l : PySem.W.OpenLaw} {n k : Nat} {q : Program} {loose : List Str} {XP : (Str → Option Value) → Heap → Prop} {YP : World → Heap → Prop} {d : DefRec} {K : Params → PySem.W.Frag} {x : Str}
    (hn : l.most = some n) (hn2 : n ≤ sizeLine) (hdf : d.params.defaults = []) (hr : Room k callerA) (hY : ∀ (w : World) (h : Heap), YP w h → (K w.params).In h)
    (F : ∀ (w : World) (mg : Str → Option Value) (fa : Addr) (h : Heap), YP w h → (K w.params).In h → h.Ns mainGlobals mg → mg d.name = some (.ref fa) → LawG l w (K w.params) k n x mg fa h) :
    PySem.W.WalkO q loose XP YP l.row.toRowW d [] (fun f vs => PySem.call f vs) := by
  refine Att.attach_callB hn hdf fun w s₀ s₁ mg mb fa o pm cd doc a vs ns G Y ho hd hcd hmg hobj hints hlen hbits hg => ?_
  obtain ⟨fd, cs, sp, hT, nT, C, hb, hsp, hF⟩ := F w mg fa _ Y (hY w _ Y) G.T.g hmg
  exact law_go (hY w _ Y) G.T.g G.T.b G.T.builtins G.T.nolimit hg hT nT C G.T.bmain hobj hints (Nat.le_trans hlen hn2) hr hF hb fun H hH hN hS => hsp H a ns hlen hH hN hS
end Z

namespace Z
open PySem PySem.Spec PyProof.Rows L2
/-! names that hold a tree of one's own -/
def gT (i : Nat) : TG := gName i
section
variable {X : Cx}
theorem ps_setT {i : Nat} {x : Str} {e : Expr} {te : TE} {pos' pos : Pos} (hN : X.N.Nodup) (hi : X.N[i]? = some x) (hx : Loc X.env.scope x) (he : PE X e te) (hs : swapsWith e (some (.Name x pos')) pos.line X.env = pure false := by rfl) (hf : X.fn x = true ∨ X.env.scope.names.lookup x = some .local := by first | exact .inl rfl | exact .inr rfl | assumption) :
    PS X (.Assign [.Name x pos'] e pos) (tAsg te (gT i)) := ps_set hN hi hx he hs hf
theorem ps_setLcT {i : Nat} {y : Str} {py : Pos} {elt tg iter : Expr} {ifs : List Expr} {scope : Scope} {own : List (Str × Nat)} {pos spos : Pos} {wi : TI} {g : TG} {tt : TT} {te : TE} (hc : X.calm = true) (hN : X.N.Nodup) (hy : X.N[i]? = some y) (hyl : X.env.scope.names.lookup y = some .local)
    (hsw : swapsWith (.ListComp elt [⟨tg, iter, ifs, 0⟩] scope pos) (some (.Name y py)) spos.line X.env = pure true) (hi : PI X tg iter wi) (ok : BlkOk X.N X.env.scope scope own)
    (hg : ∀ (s : Shared) (H : Hp) (C : Addr) (cl : List (Str × Addr)) (fp : List Addr), PG (X.blk s H scope (compEnvC scope cl C X.env) fp) tg g) (ht : ∀ (s : Shared) (H : Hp) (C : Addr) (cl : List (Str × Addr)) (fp : List Addr), PTs (X.blk s H scope (compEnvC scope cl C X.env) fp) ifs tt)
    (he : ∀ (s : Shared) (H : Hp) (C : Addr) (cl : List (Str × Addr)) (fp : List Addr), PE (X.blk s H scope (compEnvC scope cl C X.env) fp) elt te) (hs : ∀ x, foldedSetIterable iter X.env x = pure x := by intro _; rfl) :
    PS X (.Assign [.Name y py] (.ListComp elt [⟨tg, iter, ifs, 0⟩] scope pos) spos) (tAsg (tLc wi g tt te (own.map (·.2))) (gT i)) := ps_setLc hc hN hy hyl hsw hi ok hg ht he hs
end
section
variable {K : PySem.W.Frag} {E : L2.St → XK} {te ta tb : TE} {t u : TS} {Γ : Ctx} {k : D → Prop} {kx : Addr → D → Prop} {P : Po} {kl : List D → Prop} {ko : O → Prop} {al : TA} {C : Addr}
/-- len of a tuple -/
theorem ec_lenT (h : EC K E ta Γ (fun d => ∃ ds, d = .tup ds ∧ k (.int (ds.length : Nat))) kx) : EC K E (tCB (zLen K) (tCons ta tNil)) Γ k kx := by
  refine ec_lenD (h.mono ?_)
  rintro d ⟨ds, rfl, hk⟩
  exact hk
theorem sc_asgT {i : Nat} (h : EW K E te Γ (fun o => P.nx (Γ.set i (.tre o))) (P.kx Γ)) : SC K E (tAsg te (gT i)) Γ P := sc_asgW h
theorem fld_ok {f : Str} {fs ns : List Str} {ds : List D} {d' : D} (T : ClO K C fs) (hf : f ∈ fs) (hl : (ns.zip ds).lookup f = some d') (hk : k d') : ∃ C' ns' ds' d'', D.ins C ns ds = .ins C' ns' ds' ∧ Cls K C' ∧ NoAttr K C' f ∧ (ns'.zip ds').lookup f = some d'' ∧ k d'' := ⟨_, _, _, _, rfl, T.cl, T.no f hf, hl, hk⟩
theorem meth_ok {m : Str} {ns : List Str} {ds : List D} {Q : D → Prop} (hm : m ∉ ns) (h : Q (.ins C ns ds)) : ∃ ns' ds', D.ins C ns ds = .ins C ns' ds' ∧ m ∉ ns' ∧ Q (.ins C ns ds) := ⟨_, _, rfl, hm, h⟩
theorem sc_fldNew' {i : Nat} {b : Addr} {f : Str} {fs ns : List Str} {os : List O} (T : ClO K C fs) (hf : f ∈ fs) (h : Γ[i]? = some (.tre (.ins b C ns os))) (hn : f ∉ ns) (hl : ns.length < 1000) (he : EC K E te Γ (fun d => P.nx (Γ.set i (.tre (.ins b C (ns ++ [f]) (os ++ [.fz d]))))) (P.kx Γ)) : SC K E (sFld K (tVar i) te f) Γ P := sc_fldNew T.cl (T.no f hf) h hn hl he
theorem ec_fldO' {i : Nat} {b : Addr} {f : Str} {fs ns : List Str} {os : List O} {d : D} (T : ClO K C fs) (hf : f ∈ fs) (h : Γ[i]? = some (.tre (.ins b C ns os))) (hl : (ns.zip os).lookup f = some (.fz d)) (hk : k d) : EC K E (tFld K (tVar i) f) Γ k kx := ec_fldO T.cl (T.no f hf) h hl hk
/-- f(..).append(e): what is new is changed and dropped -/
theorem sc_appendNew (h : EN K E ta Γ (fun ds => ds.length < 1000000 ∧ EC K E te Γ (fun _ => P.nx Γ) (P.kx Γ)) (P.kx Γ)) : SC K E (tDrop (tBM K "list" rAppend ta (tCons te tNil))) Γ P := fun S0 S σ D g e G =>
  h S0 S σ _ e (fun T p xs ds g2 hn hp hf hm r ⟨hl, h2⟩ => ⟨.inl ⟨rfl, xs, SqL.of hp⟩, h2 S0 T σ _ (e.gr g2) (fun U v d g3 r3 kd => by
    have hp3 := g3.hp _ _ hp hm
    refine ⟨p, xs, v, rfl, rfl, hp3, by rw [r.length]; exact bigL hl, ?_⟩
    have gg := g2.trans g3
    have hf3 := g3.fr _ _ hp hf
    have hm3 : U.M p = none := by rw [g3.mu _ _ hp, hm]
    have g4 := gg.change hn hf3 hm3 (.lst (xs ++ [v]))
    exact G.nx ⟨U.F, upd U.H p _, U.M⟩ σ Γ (g.trans g4) g4.le (e.gr g4) kd) (G.kx T σ Γ (g.trans g2) g2.le (e.gr g2))⟩) (G.kx S σ Γ g (Le.refl S) e)
theorem sc_seqX {W : WX} {tt : TT} {u : TS} {C : Addr} (h : SC K (WE W) (tIfS tt (tRaise C te W) tNext) Γ { P with nx := fun Δ => SC K (WE W) u Δ P }) : SC K (WE W) (tSeq (tIfS tt (tRaise C te W) tNext) u) Γ P := sc_seq h
theorem ite_b {c : Bool} {p : Prop} {A B : Prop} (hc : c = true ↔ p) (h1 : p → A) (h2 : ¬ p → B) : if c = true then A else B := by
  cases c with
  | true => exact h1 (hc.mp rfl)
  | false => exact h2 fun z => by cases hc.mpr z
theorem ite_nb {c : Bool} {p : Prop} {A B : Prop} (hc : c = true ↔ p) (h1 : ¬ p → A) (h2 : p → B) : if (!c) = true then A else B := by
  cases c with
  | true => exact h2 (hc.mp rfl)
  | false => exact h1 fun z => by cases hc.mpr z
end
/-- {} whose content is not asked for -/
theorem ec_dicA {K : PySem.W.Frag} {E : L2.St → XK} {Γ : Ctx} {k : D → Prop} {kx : Addr → D → Prop} (hk : k .any) : EC K E tDNewK Γ k kx := fun S0 S σ Q e q x p hn => by
  have g := Gr.lay e.ok hn (.dK [])
  refine q _ (.ref p) _ g ?_ hk
  unfold Rp
  trivial
/-! ### != of lists of the same things -/
def SameV (K : PySem.W.Frag) (H : Hp) (u v : V) : Prop := u = v ∧ (∃ a, u = .ref a) ∨ (∃ x, u = .str x ∧ v = .str x) ∨ ∃ d, Dp K H u d ∧ Dp K H v d ∧ SeqAt.shaped d = true
def rNeS (K : PySem.W.Frag) : R2 := fun x y H Q => ∃ a b xs ys, x = .ref a ∧ y = .ref b ∧ SqL K H a xs ∧ SqL K H b ys ∧ Paired (SameV K H) xs ys ∧ Q (.bl false) H
def rEqS (K : PySem.W.Frag) : R2 := fun x y H Q => ∃ a b xs ys, x = .ref a ∧ y = .ref b ∧ SqL K H a xs ∧ SqL K H b ys ∧ Paired (SameV K H) xs ys ∧ Q (.bl true) H
section
variable {X : Cx} {pins : List (Addr × Obj)} {σ : L2.St} {H : Hp} {s : Shared}
theorem sameV_eq (I : Inv X pins σ H s) {A : Around} (hu : A.units + 64 < cLine) {x y : V} {u v : Value} (h : SameV X.K H x y) (ru : RelV x u) (rv : RelV y v) : SeqAt.EqAt A s u v true := by
  rcases h with ⟨rfl, a, rfl⟩ | ⟨z, rfl, rfl⟩ | ⟨d, d1, d2, hs⟩
  · cases ru
    cases rv
    exact SeqAt.EqAt.same _
  · obtain ⟨t1, rfl⟩ := ru
    obtain ⟨t2, rfl⟩ := rv
    have := SeqAt.EqAt.str_str (A := A) (s := s) z t1 z t2
    rw [show (z == z) = true from by simp] at this
    exact this
  · obtain ⟨as, r1⟩ := Dp.reads I d x u d1 ru
    obtain ⟨bs, r2⟩ := Dp.reads I d y v d2 rv
    have hc : d.canLay0 = true := by
      unfold SeqAt.shaped at hs
      rw [Bool.and_eq_true] at hs
      exact hs.1
    have hd : d.depth ≤ 64 := by
      unfold SeqAt.shaped at hs
      rw [Bool.and_eq_true, decide_eq_true_eq] at hs
      exact hs.2
    have := SeqAt.eqAt_reads d d A s u v as bs r1 r2 hc hc (by omega)
    rw [SeqAt.eqv_refl d hc] at this
    exact this
theorem same_all (I : Inv X pins σ H s) {A : Around} (hu : A.units + 64 < cLine) : ∀ {xs ys : List V} {us vs : List Value}, Paired (SameV X.K H) xs ys → Vals xs us → Vals ys vs → us.length = vs.length ∧ ∀ (j : Nat) (u v : Value), us[j]? = some u → vs[j]? = some v → SeqAt.EqAt A s u v true
  | _, _, _, _, .nil, ru, rv => by
    cases ru
    cases rv
    exact ⟨rfl, fun j u v h => by simp at h⟩
  | _, _, _, _, .cons h t, ru, rv => by
    cases ru with
    | cons r1 ru =>
      cases rv with
      | cons r2 rv =>
        obtain ⟨hl, ih⟩ := same_all I hu t ru rv
        refine ⟨by rw [List.length_cons, List.length_cons, hl], fun j u v h1 h2 => ?_⟩
        cases j with
        | zero =>
          simp at h1 h2
          rw [← h1, ← h2]
          exact sameV_eq I hu h r1 r2
        | succ j => exact ih j u v (by simpa using h1) (by simpa using h2)
theorem op_neS (hu : X.A.units + 65 < cLine) : OpR X (compareOp .NotEq) (rNeS X.K) := by
  intro pins s σ H x y v u Q I rx ry h
  obtain ⟨a, b, xs, ys, rfl, rfl, ha, hb, hp, q⟩ := h
  cases rx
  cases ry
  obtain ⟨us, ru, pl, _⟩ := I.list ha
  obtain ⟨vs, rv, pl2, _⟩ := I.list hb
  obtain ⟨hl, he⟩ := same_all I (A := X.A.in1) (by show X.A.units + 1 + 64 < cLine; omega) hp ru rv
  have := SeqAt.RcNeAt.lists (A := X.A) (e := fun _ => true) pl.isList pl2.isList (by simpa using hl) (by omega) (fun j h1 h2 => he j _ _ (by simp) (by simp))
  have e0 : (!(List.range us.toArray.size).all fun _ => true) = false := by simp
  rw [e0] at this
  exact this X.prog X.w _ _ ⟨.bl false, H, I, rfl, q⟩
theorem kop_neS (K : PySem.W.Frag) (hu : X.A.units + 65 < cLine) (hK : X.K = K := by rfl) : OpR X (compareOp .NotEq) (rNeS K) := hK ▸ op_neS hu
end
/-- data that are the same: dicts by their place, others by their content -/
def D.sm (n : Nat) (d : D) : Prop := Nice n d ∨ (∃ a ks ds, d = .dic a ks ds) ∨ ∃ x, d = .str x
section
variable {K : PySem.W.Frag} {E : L2.St → XK} {S0 S T : Wd} {ta tb : TE} {Γ : Ctx} {k : D → Prop} {kx : Addr → D → Prop}
theorem sm_all (ok : S.Ok) {n : Nat} (hn : n ≤ 64) : ∀ {ds : List D} {xs ys : List V}, (∀ d ∈ ds, d.sm n) → RpL K S ds xs → RpL K S ds ys → Paired (SameV K S.H) xs ys
  | [], _, _, _, r1, r2 => by
    rw [r1.nil_inv, r2.nil_inv]
    exact .nil
  | d :: ds, _, _, h, r1, r2 => by
    obtain ⟨x, xs, rfl, a1, b1⟩ := r1.cons_inv
    obtain ⟨y, ys, rfl, a2, b2⟩ := r2.cons_inv
    refine .cons ?_ (sm_all ok hn (fun e he => h e (List.mem_cons_of_mem _ he)) b1 b2)
    rcases h d List.mem_cons_self with hd | ⟨a, ks, es, rfl⟩ | ⟨z, rfl⟩
    · exact .inr (.inr ⟨d.py, Rp.dp ok hd.pl a1, Rp.dp ok hd.pl a2, hd.shaped hn⟩)
    · unfold Rp at a1 a2
      obtain ⟨_, rfl, _⟩ := a1
      obtain ⟨_, rfl, _⟩ := a2
      exact .inl ⟨rfl, a, rfl⟩
    · unfold Rp at a1 a2
      exact .inr (.inl ⟨z, a1, a2⟩)
theorem ec_neS {n : Nat} (hn : n ≤ 64) (h : EL K E ta Γ (fun ds => EL K E tb Γ (fun es => ds = es ∧ (∀ d ∈ ds, d.sm n) ∧ k (.bl false)) kx) kx) : EC K E (tOp (rNeS K) ta tb) Γ k kx := fun S0 S σ Q e q x =>
  h S0 S σ _ e (fun T p xs ds g hp hm r h2 => h2 S0 T σ _ (e.gr g) (fun U p2 ys es g2 hp2 hm2 r2 ⟨e1, hs, kd⟩ => by
    subst e1
    exact ⟨p, p2, xs, ys, rfl, rfl, SqL.of (g2.hp _ _ hp hm), SqL.of hp2, sm_all g2.ok hn hs (r.mono g2.le) r2, q U _ _ (g.trans g2) rpb kd⟩) (x.gr g)) x
end
/-! a, b = [..], e -/
def tParO (i j : Nat) (t : TA) : TS := tPar i j t
section
variable {K : PySem.W.Frag} {E : L2.St → XK} {ta te : TE} {Γ : Ctx} {P : Po}
/-- the first a list of one's own, the second data -/
theorem sc_parOD {i j : Nat} (hij : i ≠ j) (h : EN K E ta Γ (fun ds => EC K E te Γ (fun d => P.nx ((Γ.set i (.own ds)).set j (.dat d))) (P.kx Γ)) (P.kx Γ)) : SC K E (tParO i j (tCons ta (tCons te tNil))) Γ P := fun S0 S σ D g e G =>
  h S0 S σ _ e (fun T p xs ds g2 hn hp hf hm r h2 => h2 S0 T σ _ (e.gr g2) (fun U v d g3 r3 kd => by
    have g4 := g2.trans g3
    have hf3 := g3.fr _ _ hp hf
    have hm3 : U.M p = none := by rw [g3.mu _ _ hp, hm]
    have e3 := (e.bindOwn g4 i (g.new hn) hn (g3.hp _ _ hp hm) hf3 hm3 (r.mono g3.le)).setDat (i := j) r3
    exact ⟨_, _, rfl, G.nx U _ _ (g.trans g4) g4.le e3 kd⟩) (G.kx T σ Γ (g.trans g2) g2.le (e.gr g2))) (G.kx S σ Γ g (Le.refl S) e)
end
section
variable {X : Cx}
theorem ps_parO {i j : Nat} {x y : Str} {e1 e2 : Expr} {kk k2 : Nat} {p1 p2 p3 p4 pos : Pos} {t : TA} (h : PS X (.Assign [.Tuple [.Name x p1, .Name y p2] kk p3] (.Tuple [e1, e2] k2 p4) pos) (tPar i j t)) : PS X (.Assign [.Tuple [.Name x p1, .Name y p2] kk p3] (.Tuple [e1, e2] k2 p4) pos) (tParO i j t) := h
end
theorem pick {α : Type} {ds : List α} {r : Int} (h0 : 0 ≤ r) (h1 : r < ds.length) : ∃ d, atI ds r = some d ∧ d ∈ ds := by
  have h2 : r.toNat < ds.length := by omega
  refine ⟨ds[r.toNat], ?_, List.getElem_mem h2⟩
  exact atI_of (j := r.toNat) (by omega) (List.getElem?_eq_getElem h2)
theorem mem_cut {α : Type} {xs : List α} {lo hi : Option Int} {x : α} (h : x ∈ cut xs lo hi) : x ∈ xs := by
  unfold cut at h
  exact List.mem_of_mem_drop (List.mem_of_mem_take h)
theorem len_cut {α : Type} (xs : List α) (lo hi : Option Int) : (cut xs lo hi).length ≤ xs.length := by
  unfold cut
  rw [List.length_take, List.length_drop]
  omega
/-- the statements of a class -/
def clsBody : Stmt → List Stmt
  | .ClassDef _ _ _ body _ _ _ _ _ _ _ => body
  | _ => []
theorem xnoV {P : Program} {w : World} {K : PySem.W.Frag} {mg : Str → Option Value} {base : Heap} {x : Str} {C : Addr} (h : ExcOk P w K mg base x C) : PySem.W.findIn K (.ref C) "value" = some none := by
  obtain ⟨_, _, _, _, o⟩ := h.ob
  exact o.noV
end Z
theorem L2.Fun.toD {K : PySem.W.Frag} {x qual : PySem.Str} {st : PySem.Stmt} {f : PySem.Addr} {fd : PySem.FuncData} (F : L2.Fun K x qual st f fd) : L2.FunD K x qual (L2.defArgs st) (L2.defBody st) (L2.defScope st) [] [] f fd := by
  obtain ⟨oc, od, kV, doc, pm, an, cdv, ct, osl, e, lk, hcd⟩ := F.ex
  exact ⟨⟨oc, od, .none, kV, doc, pm, an, cdv, ct, osl, e, lk, hcd, .inl ⟨rfl, rfl⟩, .inl rfl⟩, F.kp⟩

namespace Z
open PySem PySem.Spec PyProof.Rows L2
/-! a try, named -/
def tTryA (K : PySem.W.Frag) (i : Nat) (Wout : WX) (l : List (Value × (Addr → Value → Option Addr → TS))) (tb : WX → TS) : TS := fun D σ H => tb (wMA K i Wout D l) D σ H
section
variable {X : Cx} {n : Str} {i : Nat} {body : List Stmt} {h₀ : ExceptHandler} {hds : List ExceptHandler} {l : List (Value × (Addr → Value → Option Addr → TS))} {pos : Pos} {tb : WX → TS} {Wout : WX}
theorem ps_tryT (hs : X.stack = X.env :: X.outer) (hf : X.env.frame = some X.env.locals) (hN : X.N.Nodup) (hi : X.N[i]? = some n) (hln : X.env.kindOf n = some .local) (tk : Takes X Wout)
    (hb : ∀ (W : WX) (pn : List (Addr × Obj)) (xe : Value → Shared → Prop), Takes (X.tr pn xe) W → PassesOwn (model X.prog X.w) X.A X.env xe → PSs (X.tr pn xe) body (tb W))
    (hh : HdsA X n (h₀ :: hds) l) : PS X (.Try body (h₀ :: hds) [] [] pos) (tTryA X.K i Wout l tb) := ps_tryA hs hf hN hi hln tk hb hh
end
section
variable {K : PySem.W.Frag} {E : L2.St → XK} {Wout : WX} {Γ : Ctx} {P : Po} {i : Nat} {l : List (Value × (Addr → Value → Option Addr → TS))} {tb : WX → TS}
theorem sc_tryT (h : ∀ W : WX, SC K (WE W) (tb W) Γ { P with kx := HX K i P l }) : SC K (WE Wout) (tTryA K i Wout l tb) Γ P := sc_tryA h
theorem sc_tryT0 (h : ∀ W : WX, SC K (WE W) (tb W) Γ { P with kx := HX K i { P with kx := fun _ _ _ => False } l }) : SC K E (tTryA K i (fun _ _ _ _ => False) l tb) Γ P := fun S0 S σ D g e G =>
  sc_tryA (Wout := fun _ _ _ _ => False) (P := { P with kx := fun _ _ _ => False }) h S0 S σ D g e ⟨G.nx, G.rt, G.rn, G.rw, G.bk, G.ct, fun _ _ _ _ _ _ => xp0⟩
theorem suite_ok {ts : Addr → Value → Option Addr → TS} {Δ : Ctx} {C : Addr} {d : D} (hd : d ≠ .any) (h : ∀ a dd : Addr, SC K ES0 (ts a (.ref C) (some dd)) (Δ.set i (.dat (.exc a dd d))) { nx := fun Δ' => P.nx (Δ'.set i .un), rt := P.rt, rn := P.rn, rw := P.rw, bk := fun Δ' => P.bk (Δ'.set i .un), ct := fun Δ' => P.ct (Δ'.set i .un) }) : SuiteOk K i P ts Δ C d := ⟨h, fun e => absurd e hd⟩
end
theorem rd_neSm {K : PySem.W.Frag} {k : D → Prop} {n : Nat} {ds : List D} (hn : n ≤ 64) (hs : ∀ d ∈ ds, d.sm n) (hk : k (.bl false)) : RD K (rNeS K) (.lst ds) (.lst ds) k := fun S Q v w ok r1 r2 q => by
  unfold Rp at r1 r2
  obtain ⟨p, xs, rfl, f1, r1⟩ := r1
  obtain ⟨p2, ys, rfl, f2, r2⟩ := r2
  exact ⟨p, p2, xs, ys, rfl, rfl, SqL.of (ok.sub _ _ f1), SqL.of (ok.sub _ _ f2), sm_all ok hn hs r1 r2, q S _ _ (Gr.refl ok) rpb hk⟩
theorem rd_eqSm {K : PySem.W.Frag} {k : D → Prop} {n : Nat} {ds : List D} (hn : n ≤ 64) (hs : ∀ d ∈ ds, d.sm n) (hk : k (.bl true)) : RD K (rEqS K) (.lst ds) (.lst ds) k := fun S Q v w ok r1 r2 q => by
  unfold Rp at r1 r2
  obtain ⟨p, xs, rfl, f1, r1⟩ := r1
  obtain ⟨p2, ys, rfl, f2, r2⟩ := r2
  exact ⟨p, p2, xs, ys, rfl, rfl, SqL.of (ok.sub _ _ f1), SqL.of (ok.sub _ _ f2), sm_all ok hn hs r1 r2, q S _ _ (Gr.refl ok) rpb hk⟩
theorem pick_ix {ds : List D} {r : Int} {k : D → Prop} (h0 : 0 ≤ r) (h1 : r < ds.length) (h : ∀ d ∈ ds, k d) : ∃ z d, D.int r = .int z ∧ atI ds z = some d ∧ k d := by
  obtain ⟨d, e, m⟩ := pick h0 h1
  exact ⟨r, d, rfl, e, h d m⟩
end Z

namespace Z
open PySem PySem.Spec PyProof.Rows L2
/-! ### slots with a fact that stays -/
section
variable {K : PySem.W.Frag} {E : L2.St → XK} {S0 S T : Wd} {σ : L2.St} {Γ : Ctx} {k : D → Prop} {kx : Addr → D → Prop} {P : Po} {i : Nat} {d : D} {f : Wd → Prop}
theorem EnvOk.fct (e : EnvOk K S0 S σ Γ) (h : Γ[i]? = some (.fct d f)) : (∃ v, σ[i]? = some (some v) ∧ Rp K S d v) ∧ ∀ T : Wd, Le S T → f T := by
  obtain ⟨A, h1, _⟩ := e.fp
  exact (h1 i _ h).2
theorem ec_varF (h : Γ[i]? = some (.fct d f)) (hk : k d) : EC K E (tVar i) Γ k kx := fun S0 S σ Q e q x => by
  obtain ⟨⟨v, h1, r⟩, _⟩ := e.fct h
  exact ⟨v, h1, q S v d (Gr.refl e.ok) r hk⟩
def datS : Sl → Sl
  | .dat d => .dat d
  | .fct d f => .fct d f
  | _ => .un
/-- of the slots only what is data -/
def datOf (Γ : Ctx) : Ctx := Γ.map datS
theorem EnvOk.dats (e : EnvOk K S0 S σ Γ) (l : Le S T) (ok : T.Ok) : EnvOk K S0 T σ (datOf Γ) := by
  obtain ⟨A, h1, _⟩ := e.fp
  refine ⟨ok, by unfold datOf; rw [List.length_map]; exact e.len, fun _ => [], fun j s h => ?_, fun _ _ _ _ h _ => absurd h List.not_mem_nil, fun _ => List.nodup_nil, fun _ _ => rfl⟩
  unfold datOf at h
  rw [List.getElem?_map] at h
  cases hg : Γ[j]? with
  | none =>
    rw [hg] at h
    cases h
  | some s0 =>
    rw [hg] at h
    cases h
    have hs := h1 j s0 hg
    cases s0 with
    | un => exact rfl
    | own _ => exact rfl
    | tre _ => exact rfl
    | dat d =>
      obtain ⟨_, v, q, r⟩ := hs
      exact ⟨rfl, v, q, r.mono l⟩
    | fct d f =>
      obtain ⟨_, ⟨v, q, r⟩, hf⟩ := hs
      exact ⟨rfl, ⟨v, q, r.mono l⟩, fun U l2 => hf U (l.trans l2)⟩
theorem env_un {n : Nat} (ok : T.Ok) (hl : σ.length = n) : EnvOk K S0 T σ (List.replicate n .un) := by
  refine ⟨ok, by rw [List.length_replicate]; exact hl, fun _ => [], fun j s h => ?_, fun _ _ _ _ h _ => absurd h List.not_mem_nil, fun _ => List.nodup_nil, fun _ _ => rfl⟩
  rw [List.getElem?_replicate] at h
  split at h
  · cases h
    exact rfl
  · cases h
end
theorem rd_isB {K : PySem.W.Frag} {k : D → Prop} {a b : Bool} (hk : k (.bl (decide (a = b)))) : RD K rIsB (.bl a) (.bl b) k := fun S Q v w ok r1 r2 q => by
  unfold Rp at r1 r2
  exact ⟨a, b, r1, r2, q S _ _ (Gr.refl ok) rpb hk⟩
/-! ### tables of code objects -/
def TabsIn (ts : List (Addr × Str)) (T : Wd) : Prop := ∀ p ∈ ts, T.M p.1 = some (.tab p.2)
theorem TabsIn.le {ts : List (Addr × Str)} {S T : Wd} (h : TabsIn ts S) (l : Le S T) : TabsIn ts T := fun p hp => l.mu _ _ (h p hp)
/-- a code object more -/
theorem Gr.code {S : Wd} {P c : Addr} {q : Str} {ps qs : Array Value} (ok : S.Ok) (hM : S.M P = some (.tab q)) (hP : S.H P = some (.tbl ps)) (hc : S.H c = none) (ht : TriplesOk qs.toList)
    (ha : ∀ (pos : Pos) (cv : Value), codeAmong pos qs.toList = some cv → codeAmong pos ps.toList = some cv ∨ cv = .ref c) : Gr S ⟨upd S.F c (LamX.CodeO c q), upd (upd S.H P (.tbl qs)) c (LamX.CodeO c q), S.M⟩ := by
  have there : ∀ {a o}, S.H a = some o → a ≠ c := fun {a o} e z => by
    rw [z, hc] at e
    cases e
  have fzc : ∀ {a o}, S.F a = some o → a ≠ c := fun {a o} e => there (ok.sub a o e)
  have fP : S.F P = none := (ok.kd P _ hM).1
  have le : Le S ⟨upd S.F c (LamX.CodeO c q), upd (upd S.H P (.tbl qs)) c (LamX.CodeO c q), S.M⟩ := ⟨fun a o e => by
    show upd S.F c _ a = some o
    rw [upd_ne (fzc e)]
    exact e, fun a k e => e⟩
  refine ⟨ok, ⟨fun a o e => ?_, fun a k e => ?_, fun x q' e => ?_⟩, le.fz, fun a o e m => ?_, fun a o e f => ?_, fun _ _ _ => rfl⟩
  · have e : upd S.F c (LamX.CodeO c q) a = some o := e
    show upd (upd S.H P (.tbl qs)) c (LamX.CodeO c q) a = some o
    by_cases h : a = c
    · rw [h, upd_same] at e ⊢
      exact e
    · rw [upd_ne h] at e ⊢
      rw [upd_ne (fun z => by rw [z, fP] at e; cases e)]
      exact ok.sub a o e
  · obtain ⟨f0, ki⟩ := ok.kd a k e
    obtain ⟨o, ho⟩ := ki.there
    have nc := there ho
    refine ⟨?_, ?_⟩
    · show upd S.F c _ a = none
      rw [upd_ne nc]
      exact f0
    · by_cases h : a = P
      · subst h
        rw [hM] at e
        cases e
        obtain ⟨ps', h1, h2, h3⟩ := ki
        rw [hP] at h1
        cases h1
        refine ⟨qs, ?_, ht, fun pos cv hcv => ?_⟩
        · show upd (upd S.H a _) c _ a = _
          rw [upd_ne nc, upd_same]
        · rcases ha pos cv hcv with z | z
          · obtain ⟨c0, e1, e2⟩ := h3 pos cv z
            exact ⟨c0, e1, le.fz _ _ e2⟩
          · exact ⟨c, z, upd_same⟩
      · refine ki.stay le ?_
        show upd (upd S.H P _) c _ a = S.H a
        rw [upd_ne nc, upd_ne h]
  · have e : upd (upd S.H P (.tbl qs)) c (LamX.CodeO c q) x = some (LamX.CodeO x q') := e
    show upd S.F c (LamX.CodeO c q) x = some (LamX.CodeO x q')
    by_cases h : x = c
    · rw [h, upd_same] at e ⊢
      exact e
    · rw [upd_ne h] at e ⊢
      by_cases h2 : x = P
      · rw [h2, upd_same] at e
        exact absurd (Option.some.inj e).symm (LamX.codeO_ne qs)
      · rw [upd_ne h2] at e
        exact ok.cod x q' e
  · show upd (upd S.H P _) c _ a = some o
    rw [upd_ne (there e), upd_ne (fun z => by rw [z, hM] at m; cases m)]
    exact e
  · show upd S.F c _ a = none
    rw [upd_ne (there e)]
    exact f
section
variable {X : Cx} {pins : List (Addr × Obj)} {σ : L2.St} {S : Wd} {s : Shared}
/-- a lambda is made -/
theorem lam_made {c P : Addr} {q : Str} {params : Arguments} {body : Expr} {scope : Scope} {pos : Pos} {E Q : Value → Shared → Prop} (I : Inv X pins σ S.H s) (ok : S.Ok) (hM : S.M P = some (.tab q)) (hq : q = X.env.qual ++ "<lambda>") (TB : LamX.TabB X.base X.mg c P) (hcode : X.env.code = .ref c)
    (hdef : defaultsOf params X.env = ([], [])) (hfree : ∀ y ∈ scope.names, y.2 = .free → ∃ c, X.env.cells.lookup y.1 = some c)
    (h : ∀ (f c' : Addr) (pm ctv : Value) (S1 : Wd) (s' : Shared), Gr S S1 → S1.F c' = some (LamX.CodeO c' q) → Inv X pins σ S1.H s' →
      s'.heap.get? f = some (PySem.W.kla_obj "<lambda>" (X.env.qual ++ "<lambda>") params body scope (cloFrom X.env.cells scope.names []) pm c' ctv) → S1.H f = none → f ∉ frs X.stack → Q (.ref f) s') :
    wpAny (model X.prog X.w) X.A (eval (.Lambda params body scope pos) X.env) Q E s := by
  subst hq
  obtain ⟨ps, hP, ht, ha⟩ := (ok.kd P _ hM).2
  have bP := TB.bm.keeps I.bk
  have oP := I.hok P _ hP
  have far : ∀ f : Addr, s.heap.objs.size ≤ f → f ∉ frs X.stack := fun f hf z => (List.mem_cons.mp (I.stkSub _ z)).elim (fun e => by
    have := I.lt
    rw [← e] at this
    exact absurd this (Nat.not_lt.mpr hf)) fun e => I.nofs hf e
  refine PySem.W.kla_eval hdef ?_
  cases hit : codeAmong pos ps.toList with
  | some cv =>
    obtain ⟨c', rfl, hco⟩ := ha pos cv hit
    refine PySem.W.kla_makeFunctionHit (mg := X.mg) (closure_ok hfree) I.ok.glob (I.mod.glob.keeps I.bk) hcode (TB.code.keeps I.bk) oP ht hit bP fun ctv h' tk keep big => ?_
    exact h _ c' _ ctv S _ (Gr.refl ok) hco (I.kept fun b o e => Heap.get?_push_of_some _ (keep b o e)) (Heap.get?_push_size _ rfl) (I.hok.fresh big) (far _ big)
  | none =>
    refine PySem.W.kla_makeFunction (mg := X.mg) (closure_ok hfree) I.ok.glob (I.mod.glob.keeps I.bk) hcode (TB.code.keeps I.bk) oP ht hit TB.gP bP fun c' ctv h' tk keep ge lt rec tab => ?_
    obtain ⟨c2, oc, us, t, e2, hoc, hd, hv⟩ := rec
    cases e2
    have big : s.heap.objs.size ≤ h'.objs.size := Nat.le_trans ge (Nat.le_of_lt lt)
    have nC : S.H c' = none := I.hok.fresh ge
    have eL : (ps ++ #[rawInt pos.line, rawInt pos.col, .ref c']).toList = ps.toList ++ [rawInt pos.line, rawInt pos.col, .ref c'] := by simp
    have g := Gr.code (c := c') (qs := ps ++ #[rawInt pos.line, rawInt pos.col, .ref c']) ok hM hP nC (by
      rw [eL]
      exact PySem.TriplesOk_snoc _ _ _ _ ht) fun p cv e => by
        rw [eL] at e
        exact LamX.among_app _ ht e
    refine h h'.objs.size c' _ ctv _ _ g upd_same (LamX.inv_table (t' := tk) (more := #[rawInt pos.line, rawInt pos.col, .ref c']) I hP (fun b o hb e => Heap.get?_push_of_some _ (keep b o hb e)) (Heap.get?_push_of_some _ tab) ge ⟨oc, us, t, Heap.get?_push_of_some _ hoc, hd, hv⟩) (Heap.get?_push_size _ rfl) ?_ (far _ big)
    show upd (upd S.H P _) c' _ h'.objs.size = none
    rw [upd_ne (Nat.ne_of_gt lt), upd_ne (Nat.ne_of_gt (Nat.lt_of_lt_of_le (Heap.lt_size oP) big))]
    exact I.hok.fresh big
end
/-! ### a def that calls what it is given -/
/-- what a computation gives or raises -/
abbrev CMP := (D → Prop) → (Addr → D → Prop) → Prop
abbrev WPE := CMP → (D → Prop) → Prop
/-- the computation, wherever it is asked for from now on -/
def Runs (K : PySem.W.Frag) (tl : XK → Hp → VK → Prop) (c : CMP) (T : Wd) : Prop := T.Ok → ∀ (kq : D → Prop) (kx : Addr → D → Prop) (Q : VK) (E : XK), c kq kx → (∀ (U : Wd) v d, Gr T U → Rp K U d v → kq d → Q v U.H) → XP K E T kx → tl E T.H Q
def Thunk (K : PySem.W.Frag) (c' : Addr) (q : Str) (tl : XK → Hp → VK → Prop) (c : CMP) (T : Wd) : Prop := T.F c' = some (LamX.CodeO c' q) ∧ Runs K tl c T
/-- a(): calls the lambda at f -/
def ActP (Y : Cx) (a : Str) (f c' : Addr) (q : Str) (tl : XK → Hp → VK → Prop) : Prop := ∀ (W : WX) (pn : List (Addr × Obj)) (xe : Value → Shared → Prop) (E : XK) (p1 p2 : Pos), Takes (Y.tr pn xe) W → (∀ cls d σ' H', E cls d H' → W cls d σ' H') →
  PE (Y.tr pn xe) (.Call (.Name a p1) [] [] p2) (fun σZ HZ Q => σZ[0]? = some (some (.ref f)) ∧ HZ c' = some (LamX.CodeO c' q) ∧ tl E HZ Q)
def tDoor (n : Nat) (f c' : Addr) (q : Str) (tl : XK → Hp → VK → Prop) (W : WX) : TE := fun σ H Q => ∃ E : XK, (∀ cls d σ' H', σ'.length = n → E cls d H' → W cls d σ' H') ∧ σ[0]? = some (some (.ref f)) ∧ H c' = some (LamX.CodeO c' q) ∧ tl E H Q
theorem takes_len {X : Cx} {W : WX} (tk : Takes X W) : Takes X (fun cls d σ H => σ.length = X.N.length → W cls d σ H) := fun u s' ⟨a, B, sI, pins, σ, H, cls, d, e, I, nb, up, sky, na, os, ag, w⟩ => tk u s' ⟨a, B, sI, pins, σ, H, cls, d, e, I, nb, up, sky, na, os, ag, w I.len⟩
theorem pe_door {Y : Cx} {pn : List (Addr × Obj)} {xe : Value → Shared → Prop} {W : WX} {a : Str} {f c' : Addr} {q : Str} {tl : XK → Hp → VK → Prop} {p1 p2 : Pos} (act : ActP Y a f c' q tl) (tk : Takes (Y.tr pn xe) W) : PE (Y.tr pn xe) (.Call (.Name a p1) [] [] p2) (tDoor Y.N.length f c' q tl W) :=
  ⟨fun pins s σ H Q I ⟨E, hE, h1, h2, h3⟩ => (act _ pn xe E p1 p2 (takes_len tk) (fun cls d σ' H' h l => hE cls d σ' H' l h)).run pins s σ H Q I ⟨h1, h2, h3⟩⟩
theorem sc_door {K : PySem.W.Frag} {W : WX} {Γ : Ctx} {P : Po} {n : Nat} {f c' : Addr} {q : Str} {tl : XK → Hp → VK → Prop} {c : CMP} (h0 : Γ[0]? = some (.fct (.val (.ref f)) (Thunk K c' q tl c))) (hn : Γ.length = n) (h : c (fun _ => P.nx Γ) (P.kx (List.replicate n .un))) :
    SC K (WE W) (tDrop (tDoor n f c' q tl W)) Γ P := fun S0 S σ D g e G => by
  obtain ⟨⟨v, hv, rv⟩, hf⟩ := e.fct h0
  unfold Rp at rv
  subst rv
  obtain ⟨hF, run⟩ := hf S (Le.refl S)
  refine ⟨fun cls d H' => ∀ σ' : L2.St, σ'.length = n → W cls d σ' H', fun cls d σ' H' hl hE => hE σ' hl, hv, e.ok.sub _ _ hF, run e.ok _ _ _ _ h (fun U v d g2 r kd => G.nx U σ Γ (g.trans g2) g2.le (e.gr g2) kd) fun T C o d g2 xv hk σ' hl => ?_⟩
  exact G.kx T σ' _ (g.trans g2) g2.le (env_un g2.ok hl) T C o d (Gr.refl g2.ok) xv hk
/-- such a def -/
structure FnL (P : Program) (w : World) (K : PySem.W.Frag) (mg : Str → Option Value) (base : Heap) (k : Nat) (g : Addr) (fd : FuncData) (N : List Str) (x a : Str) (sg : Scope) (wp : WPE) : Prop where
  run : ∀ (A : Around) (outer : List Env) (s : Shared) (S : Wd) (f c' : Addr) (q : Str) (tl : XK → Hp → VK → Prop) (c : CMP) (kk : D → Prop) (Q : VK), Room k A → A.guards = some [] → Env0 P w K mg base A outer s S.H → S.Ok → (∀ T : Wd, Le S T → Thunk K c' q tl c T) → wp c kk → (∀ (U : Wd) v d, Gr S U → Rp K U d v → kk d → Q v U.H) →
    (∀ cdv : Value, ActP (cxOf (L2.CX P w) P w K mg base N x sg g cdv A outer s S.H E0) a f c' q tl) → BindsTo s fd ⟨[.ref f], []⟩ ([a].zip [.ref f]) → codeAny (model P w) A (.call (.ref g) ⟨[.ref f], []⟩) (CR (L2.CX P w) outer P w S.H s Q E0) s
def startL (n : Nat) (d : D) (f : Wd → Prop) : Ctx := .fct d f :: List.replicate (n - 1) .un
section
variable {P : Program} {w : World} {K : PySem.W.Frag} {mg : Str → Option Value} {base : Heap}
theorem env_startL {S0 S : Wd} {N : List Str} {d : D} {v : V} {f : Wd → Prop} (ok : S.Ok) (r : Rp K S d v) (hf : ∀ T : Wd, Le S T → f T) (hn : 0 < N.length) : EnvOk K S0 S (L2.start N [v]) (startL N.length d f) := by
  refine ⟨ok, ?_, fun _ => [], fun i s h => ?_, fun _ _ _ _ h _ => absurd h List.not_mem_nil, fun _ => List.nodup_nil, fun _ _ => rfl⟩
  · unfold L2.start startL
    simp
    try omega
  · cases i with
    | zero =>
      cases h
      exact ⟨rfl, ⟨v, rfl, r⟩, hf⟩
    | succ i =>
      unfold startL at h
      rw [List.getElem?_cons_succ, List.getElem?_replicate] at h
      split at h
      · cases h
        exact rfl
      · cases h
theorem okL {x a : Str} {st : Stmt} {g : Addr} {fd : FuncData} {N : List Str} {k : Nat} {wp : WPE} (F : Fun K x x st g fd) (Sc : FnScope N [a] (defScope st)) (hn : 0 < N.length)
    (body : ∀ (cdv : Value) (A : Around) (outer : List Env) (s : Shared) (H : Hp), Room k (A.deeper (envOfC x (defScope st) s.heap.objs.size g cdv)) → A.guards = some [] → ∀ (f c' : Addr) (q : Str) (tl : XK → Hp → VK → Prop),
      ActP (cxOf (L2.CX P w) P w K mg base N x (defScope st) g cdv A outer s H E0) a f c' q tl → ∃ t, PSs (cxOf (L2.CX P w) P w K mg base N x (defScope st) g cdv A outer s H E0) (defBody st) t ∧
        ∀ c kk, wp c kk → SC K ES0 t (startL N.length (.val (.ref f)) (Thunk K c' q tl c)) { nx := fun _ => kk .non, rt := kk, rn := fun es => kk (.lst es) }) : FnL P w K mg base (k + 1) g fd N x a (defScope st) wp := by
  obtain ⟨oc, od, kV, doc, pm, an, cdv, ct, osl, rfl, lk, hcd⟩ := F.ex
  refine ⟨fun A outer s S f c' q tl c kk Q hr hg e0 ok th hw hQ act hb => ?_⟩
  refine LamX.run_ofS (vs := [.ref f]) lk hcd Sc hr e0 hb (.cons rfl .nil) rfl fun hr' => ?_
  obtain ⟨t, ht, hs⟩ := body cdv A outer s S.H hr' hg f c' q tl (act cdv)
  refine ⟨t, ht, hs c kk hw S S _ _ (Gr.refl ok) (env_startL ok (by unfold Rp; rfl) th hn) ⟨fun U τ Δ g2 _ _ h => hQ U .non .non g2 (by unfold Rp; rfl) h, fun U v d g2 r h => hQ U v d g2 r h, fun U p xs es g2 a1 b1 c1 d1 r h => hQ ⟨upd U.F p (.lst xs), U.H, U.M⟩ _ (.lst es) (g2.freeze a1 b1 d1) (by
    unfold Rp
    exact ⟨p, xs, rfl, upd_same, r.mono (Le.freeze c1)⟩) h, fun _ _ _ _ _ _ _ h => h.elim, fun _ _ _ _ _ _ h => h.elim, fun _ _ _ _ _ _ h => h.elim, fun _ _ _ _ _ _ => xp0⟩⟩
end
def lamQ (x : Str) : Str := x ++ ".<locals>." ++ "<lambda>"
/-- such a def, by its name -/
structure CalL (P : Program) (w : World) (K : PySem.W.Frag) (mg : Str → Option Value) (base : Heap) (x : Str) (k : Nat) (wp : WPE) : Prop where
  ex : ∃ (g : Addr) (fd : FuncData) (N : List Str) (a : Str) (sg : Scope), FnL P w K mg base k g fd N x a sg wp ∧ mg x = some (.ref g) ∧ PySem.W.keepIn K (.ref g) = true ∧ Binds K fd [a] [] ∧ N[0]? = some a ∧ Vis sg a ∧ (a == ("__debug__" : Str)) = false ∧ (a == ("__classdict__" : Str)) = false
theorem CalL.of {P : Program} {w : World} {K : PySem.W.Frag} {mg : Str → Option Value} {base : Heap} {x qual a : Str} {st : Stmt} {f : Addr} {fd : FuncData} {k : Nat} {N : List Str} {wp : WPE} (F : Fun K x qual st f fd) (g : mg x = some (.ref f)) (b : Binds K fd [a] []) (h : FnL P w K mg base k f fd N x a (defScope st) wp)
    (hN : N[0]? = some a := by rfl) (hv : Vis (defScope st) a := by exact Or.inl rfl) (h1 : (a == ("__debug__" : Str)) = false := by decide) (h2 : (a == ("__classdict__" : Str)) = false := by decide) : CalL P w K mg base x k wp := ⟨f, fd, N, a, _, h, g, F.kp, b, hN, hv, h1, h2⟩
/-- x(lambda: body) -/
def tLamZ (K : PySem.W.Frag) (P : Addr) (q : Str) (wp : WPE) (t : XK → TE) : TE := fun σ H Q => ∃ (S : Wd) (c : CMP) (kk : D → Prop), S.Ok ∧ S.H = H ∧ S.M P = some (.tab q) ∧ (∀ T : Wd, Le S T → Runs K (fun E H' Q' => t E σ H' Q') c T) ∧ wp c kk ∧ ∀ (U : Wd) v d, Gr S U → Rp K U d v → kk d → Q v U.H
section
variable {X : Cx}
theorem pe_lam {x : Str} {c P : Addr} {q : Str} {k m : Nat} {wp : WPE} {params : Arguments} {body : Expr} {scope : Scope} {t : XK → TE} {p lpos pos : Pos} (C : CalL X.prog X.w X.K X.mg X.base x k wp) (hg : Gl X x) (gd : X.A.guards = some []) (hr : Room k X.A) (hr2 : Room (m + 2) X.A)
    (TB : LamX.TabB X.base X.mg c P) (hcode : X.env.code = .ref c) (hq : q = X.env.qual ++ "<lambda>") (L : LamX.LamS X.env.scope scope) (hdef : defaultsOf params X.env = ([], []))
    (hbind : ∀ (q : Str) (cl : List (Str × Addr)) (pm cv ctv : Value), bindArgs (PySem.W.kla_fn "<lambda>" q params body scope cl pm cv ctv) ⟨[], []⟩ = pure [])
    (hbody : ∀ (A : Around) (outer : List Env) (s : Shared) (H : Hp) (E : XK) (f c' : Addr), Room m (A.deeper (LamX.lamEnv X scope s.heap.objs.size f c')) → PE (LamX.lamCx X A outer s H E scope f c') body (t E))
    (hdb : (x == ("__debug__" : Str)) = false := by decide) : PE X (.Call (.Name x p) [.Lambda params body scope lpos] [] pos) (tLamZ X.K P q wp t) := by
  obtain ⟨g, fd, N, a, sg, F, hm, hk, hb, hN, hv, h1, h2⟩ := C.ex
  refine ⟨fun pins s σ H Q I h => ?_⟩
  obtain ⟨S, cm, kk, ok, rfl, hM, run, hw, hQ⟩ := h
  refine wpAny_Call_Name_kw (ld_glob I hg hm ?_ hdb)
  refine PySem.W.callWith_K (h₀ := X.base) I.ok.mod.kin hk ?_ (by rfl) (by rfl)
  show wpAny _ _ (spliced ((false, eval (.Lambda params body scope lpos) X.env) :: backTo pos (starEach [] X.env))) _ _ s
  refine Calls.spliced_cons (lam_made I ok hM hq TB hcode hdef (L.has I.ok) fun f c' pm ctv S1 s' gr hF I1 hf hfn hfr => ?_)
  refine Calls.spliced_nil ⟨I1.kIn, ?_⟩
  have rc := F.run X.A X.stack s' S1 f c' q (fun E H' Q' => t E σ H' Q') cm kk Q hr gd I1.env0 gr.ok (fun T l => ⟨l.fz _ _ hF, run T (gr.le.trans l)⟩) hw (fun U v d g2 r kd => hQ U v d (gr.trans g2) r kd)
    (fun cdv W pn xe E p1 p2 tk hW => by
      subst hq
      exact LamX.pe_act (i := 0) I1 L hf hfn hfr (hbind _ _ _ _ _) tk hW (hr2.deeper _) (fun A outer s H hr3 => hbody A outer s H E f c' hr3) hN hv h1 h2) (hb s' [.ref f] I1.kIn rfl)
  refine wpAny_call (codeAny_mono rc fun r s2 hh => ?_)
  cases r with
  | error e =>
    obtain ⟨_, _, _, _, _, _, _, _, _, _, _, _, z⟩ := hh
    exact z.elim
  | ok fl =>
    cases fl with
    | ret u => exact I1.after hh
    | next => exact hh.elim
    | brk => exact hh.elim
    | cont => exact hh.elim
end
section
variable {K : PySem.W.Frag} {E : L2.St → XK} {Γ : Ctx} {k : D → Prop} {kx : Addr → D → Prop} {i : Nat} {d : D} {ts : List (Addr × Str)}
theorem ec_lam {P : Addr} {q : Str} {wp : WPE} {t : XK → TE} (hi : Γ[i]? = some (.fct d (TabsIn ts))) (hm : (P, q) ∈ ts) (c : CMP) (hb : ∀ (E' : XK) kq kx', c kq kx' → EC K (fun _ => E') (t E') (datOf Γ) kq kx') (hw : wp c k) : EC K E (tLamZ K P q wp t) Γ k kx := fun S0 S σ Q e qq x =>
  ⟨S, c, k, e.ok, rfl, (e.fct hi).2 S (Le.refl S) (P, q) hm, fun T l ok kq kx' Q' E' hc hQ hx => hb E' kq kx' hc S0 T σ Q' (e.dats l ok) hQ hx, hw, qq⟩
/-! ### defs that make lambdas: the tables are there -/
def spT (K : PySem.W.Frag) (ts : List (Addr × Str)) (wp : WP) : Sp := fun vs H Q E => ∃ (T : Wd) (ds : List D) (q : D → Prop) (kx : Addr → D → Prop), T.Ok ∧ T.H = H ∧ RpL K T ds vs ∧ TabsIn ts T ∧ wp ds q kx ∧ (∀ (U : Wd) v d, Gr T U → Rp K U d v → q d → Q v U.H) ∧ XP K E T kx
def startT (n : Nat) (ts : List (Addr × Str)) : List D → Ctx
  | [] => start n []
  | d :: ds => .fct d (TabsIn ts) :: start (n - 1) ds
theorem env_startT {S0 S : Wd} {N : List Str} {ds : List D} {vs : List V} (ok : S.Ok) (r : RpL K S ds vs) (hn : 0 < N.length) (ht : TabsIn ts S) : EnvOk K S0 S (L2.start N vs) (startT N.length ts ds) := by
  have e0 := env_start (S0 := S0) (N := N) ok r
  cases ds with
  | nil => exact e0
  | cons d ds =>
    obtain ⟨A, h1, h2, h3, h4⟩ := e0.fp
    have hst : start N.length (d :: ds) = .dat d :: start (N.length - 1) ds := by
      unfold start
      rw [List.map_cons, List.length_cons, List.cons_append, show N.length - (ds.length + 1) = N.length - 1 - ds.length by omega]
    rw [hst] at h1 h4
    have hl := e0.len
    rw [hst] at hl
    refine ⟨ok, hl, A, fun i s h => ?_, h2, h3, fun i h => h4 i ?_⟩
    · cases i with
      | zero =>
        cases h
        obtain ⟨a1, a2⟩ := h1 0 _ rfl
        exact ⟨a1, a2, fun T l => ht.le l⟩
      | succ i => exact h1 (i + 1) s h
    · cases i with
      | zero => cases h
      | succ i => exact h
theorem ec_callT {wp : WP} {t : TA} (hi : Γ[i]? = some (.fct d (TabsIn ts))) (h : EA K E t Γ (fun ds => wp ds k F0) kx) : EC K E (tCallSD (spT K ts wp) [] ES0 t) Γ k kx := fun S0 S σ Q e q x =>
  h S0 S σ _ e (fun T vs ds g r w => by
    rw [List.append_nil]
    exact ⟨T, ds, k, F0, g.ok, rfl, r, (e.fct hi).2 T g.le, w, fun U v d g2 r2 kd => q U v d (g.trans g2) r2 kd, xp0⟩) x
end
/-- what stands at a def's place -/
def CdOf (K : PySem.W.Frag) (x qual : Str) (st : Stmt) (f : Addr) (cdv : Value) : Prop := ∃ (oc : Value) (od : Option Addr) (kV doc pm : Value) (an : Option Addr) (ct : Value) (osl : Array (Option Value)), K.lookup f = some ⟨oc, od, .func (PySem.W.fnOf x qual (defArgs st) (defBody st) (defScope st) .none kV doc pm an cdv ct), osl⟩
theorem CdOf.eq {K : PySem.W.Frag} {x qual : Str} {st : Stmt} {f : Addr} {cdv cd : Value} {oc : Value} {od : Option Addr} {kV doc pm : Value} {an : Option Addr} {ct : Value} {osl : Array (Option Value)} (lk : K.lookup f = some ⟨oc, od, .func (PySem.W.fnOf x qual (defArgs st) (defBody st) (defScope st) .none kV doc pm an cd ct), osl⟩) (h : CdOf K x qual st f cdv) : cdv = cd := by
  obtain ⟨oc', od', kV', doc', pm', an', ct', osl', e⟩ := h
  rw [lk] at e
  cases e
  rfl
theorem okDT {P : Program} {w : World} {K : PySem.W.Frag} {mg : Str → Option Value} {base : Heap} {ts : List (Addr × Str)} {x qual : Str} {st : Stmt} {f : Addr} {fd : FuncData} {N ps : List Str} {k : Nat} {wp : WP} (F : Fun K x qual st f fd) (S : FnScope N ps (defScope st)) (hn : 0 < N.length) (len : ∀ ds q kx, wp ds q kx → ds.length = ps.length)
    (body : ∀ (cdv : Value) (A : Around) (outer : List Env) (s : Shared) (H : Hp) (E : XK), CdOf K x qual st f cdv → Room k (A.deeper (envOfC qual (defScope st) s.heap.objs.size f cdv)) → A.guards = some [] →
      ∃ t, PSs (cxOf (L2.CX P w) P w K mg base N qual (defScope st) f cdv A outer s H E) (defBody st) t ∧ ∀ ds q kx, wp ds q kx → SC K (fun _ => E) t (startT N.length ts ds) { nx := fun _ => q .non, rt := q, rn := fun es => q (.lst es), kx := fun _ => kx }) : FnG P w K mg base (k + 1) f fd ps (spT K ts wp) := by
  obtain ⟨oc, od, kV, doc, pm, an, cdv, ct, osl, rfl, lk, hcd⟩ := F.ex
  have len' : ∀ vs H Q E, spT K ts wp vs H Q E → vs.length = ps.length := fun vs H Q E h => by
    obtain ⟨T, ds, q, kx, _, _, r, _, hw, _⟩ := h
    rw [r.length]
    exact len ds q kx hw
  refine ⟨len', fun A outer s H args us vs Q E hr hg e0 hb r h => LamX.run_ofS lk hcd S hr e0 hb r (len' _ _ _ _ h) fun hr' => ?_⟩
  obtain ⟨T, ds, q, kx, ok, eH, r, ht, hw, hQ, hx⟩ := h
  subst eH
  obtain ⟨t, h1, hb⟩ := body cdv A outer s T.H E ⟨_, _, _, _, _, _, _, _, lk⟩ hr' hg
  refine ⟨t, h1, hb ds q kx hw T T _ _ (Gr.refl ok) (env_startT ok r hn ht) ⟨fun U τ Δ g _ _ h => hQ U .non .non g (by unfold Rp; rfl) h, fun U v d g r h => hQ U v d g r h, fun U p xs es g a b c d r h => hQ ⟨upd U.F p (.lst xs), U.H, U.M⟩ _ (.lst es) (g.freeze a b d) (by
    unfold Rp
    exact ⟨p, xs, rfl, upd_same, r.mono (Le.freeze c)⟩) h, fun _ _ _ _ _ _ _ h => h.elim, fun _ _ _ _ _ _ h => h.elim, fun _ _ _ _ _ _ h => h.elim, fun U τ Δ g l e => hx.gr g⟩⟩
/-! ### the end, with the tables -/
theorem tab_from {K : PySem.W.Frag} {x : Str} {f c P : Addr} {oc : Value} {od : Option Addr} {fd : FuncData} {sl : Array (Option Value)} {o3 : Value} {d3 : Option Addr} {vs : Array Value} {s3 : Array (Option Value)} (h1 : PySem.W.nsIn K mainGlobals x = some (some (.ref f))) (h2 : K.lookup f = some ⟨oc, od, .func fd, sl⟩) (h2c : fd.code = .ref c)
    (h3 : K.lookup c = some ⟨o3, d3, .fields vs, s3⟩) (h4 : vs[11]? = some (.ref P)) : PySem.W.tabIn K x = some (c, P) := by
  unfold PySem.W.tabIn
  rw [h1]
  dsimp only
  rw [h2]
  dsimp only
  rw [h2c]
  dsimp only
  rw [h3]
  dsimp only
  rw [h4]
theorem walk_GT {l : PySem.W.OpenLaw} {n k : Nat} {q : Program} {loose : List Str} {XP : (Str → Option Value) → Heap → Prop} {YP : World → Heap → Prop} {d : DefRec} {K : Params → PySem.W.Frag} {x : Str}
    (hn : l.most = some n) (hn2 : n ≤ sizeLine) (hdf : d.params.defaults = []) (hr : Room k callerA) (hY : ∀ (w : World) (h : Heap), YP w h → (K w.params).In h)
    (F : ∀ (w : World) (mg : Str → Option Value) (fa : Addr) (h : Heap), (∀ (y : Str) (d : DefRec) (c P : Addr), (recsOf q).find? (fun e => e.name == y) = some d → PySem.W.tabIn (K w.params) y = some (c, P) → PySem.W.CodeHd h c P ∧ h.get? P = some (PySem.W.tabObj #[])) →
      YP w h → (K w.params).In h → h.Ns mainGlobals mg → mg d.name = some (.ref fa) → LawG l w (K w.params) k n x mg fa h) :
    PySem.W.WalkO q loose XP YP l.row.toRowW d [] (fun f vs => PySem.call f vs) := by
  refine Att.attach_callB hn hdf fun w s₀ s₁ mg mb fa o pm cd doc a vs ns G Y ho hd hcd hmg hobj hints hlen hbits hg => ?_
  obtain ⟨fd, cs, sp, hT, nT, C, hb, hsp, hF⟩ := F w mg fa _ (fun y d c P h1 h2 => PySem.W.tab_of G.T (hY w _ Y) h1 h2) Y (hY w _ Y) G.T.g hmg
  exact law_go (hY w _ Y) G.T.g G.T.b G.T.builtins G.T.nolimit hg hT nT C G.T.bmain hobj hints (Nat.le_trans hlen hn2) hr hF hb fun H hH hN hS => hsp H a ns hlen hH hN hS
/-- the script, the tables: the world at the start -/
theorem law_spT {K : PySem.W.Frag} {H : Hp} {a : Addr} {ns : List Int} {ts : List (Addr × Str)} {wp : WP} {Q : VK} {E : XK} (hl : ns.length ≤ 63) (hN : ∀ b o, H b = some o → NoCode o) (hT : ∀ p ∈ ts, H p.1 = some (.tbl #[])) (hu : ∀ p ∈ ts, ∀ r ∈ ts, p.1 = r.1 → p.2 = r.2) (hS : SqL K H a (ns.map V.int))
    (hw : ∀ q kx, q (.bl true) → wp [.scr ns] q kx) (hQ : ∀ H', Q (.bl true) H') : spT K ts wp [.ref a] H Q E := by
  have fnd : ∀ {b : Addr} {p : Addr × Str}, ts.find? (fun p => p.1 == b) = some p → p ∈ ts ∧ p.1 = b := fun {b p} e => ⟨List.mem_of_find?_eq_some e, by simpa using List.find?_some e⟩
  have nft : ∀ {b : Addr} {o : HO}, H b = some o → (∀ ps, o ≠ .tbl ps) → ts.find? (fun p => p.1 == b) = none := fun {b o} e n => by
    cases h : ts.find? (fun p => p.1 == b) with
    | none => rfl
    | some p =>
      obtain ⟨h1, h2⟩ := fnd h
      have := hT p h1
      rw [h2, e] at this
      exact absurd (Option.some.inj this) (n _)
  refine ⟨⟨fun b => match ts.find? (fun p => p.1 == b) with | some _ => none | none => H b, H, fun b => (ts.find? fun p => p.1 == b).map fun p => .tab p.2⟩, [.scr ns], fun d => d = .bl true, F0, ⟨fun b o e => ?_, fun b k e => ?_, fun c q e => absurd rfl (hN _ _ e c q)⟩, rfl, RpL.cons ?_ RpL.nil, fun p hp => ?_, hw _ _ rfl, fun T v d g r e => ?_, xp0⟩
  · dsimp only at e ⊢
    split at e
    · cases e
    · exact e
  · dsimp only at e ⊢
    cases h : ts.find? (fun p => p.1 == b) with
    | none =>
      rw [h] at e
      cases e
    | some p =>
      rw [h] at e
      cases e
      obtain ⟨h1, rfl⟩ := fnd h
      exact ⟨rfl, #[], hT p h1, True.intro, fun pos cv hc => by simp [codeAmong] at hc⟩
  · unfold Rp
    refine ⟨a, rfl, ?_⟩
    rcases hS with (e | ⟨o, e⟩) | e
    · refine .inl (.inl ?_)
      dsimp only
      rw [nft e fun ps z => by cases z]
      exact e
    · refine .inl (.inr ⟨o, ?_⟩)
      dsimp only
      rw [nft e fun ps z => by cases z]
      exact e
    · exact .inr e
  · dsimp only
    cases h : ts.find? (fun r => r.1 == p.1) with
    | none =>
      rw [List.find?_eq_none] at h
      exact absurd (by simp) (h p hp)
    | some r =>
      obtain ⟨h1, h2⟩ := fnd h
      rw [Option.map_some, hu r h1 p hp h2]
  · subst e
    unfold Rp at r
    subst r
    exact hQ _
end Z

namespace Z
open PySem PySem.Spec PyProof.Rows L2
/-! ### arguments that are looked at: calls that get what is owned, and give flat data or new lists of flat data -/
/-- what is kept for later is not seen here -/
def noM : Option D → Option D
  | some (.memo _) => none
  | k => k
/-- .. the world in which a call looks at what is owned: dicts that are kept for later stand still -/
def Wd.vx (T : Wd) : Wd := ⟨fun a => match noM (T.M a) with | none => T.H a | some _ => none, T.H, fun a => noM (T.M a)⟩
def Wd.un (U T : Wd) : Wd := ⟨fun a => match T.H a with | some _ => T.F a | none => U.F a, U.H, fun a => match T.H a with | some _ => T.M a | none => noM (U.M a)⟩
mutual
/-- .. data of which one does not know what is kept for later -/
def D.um : D → D
  | .lst ds => .lst (D.ums ds)
  | .tup ds => .tup (D.ums ds)
  | .ins C ns ds => .ins C ns (D.ums ds)
  | .dic a ks ds => .dic a ks (D.ums ds)
  | .exc a dd d => .exc a dd (D.um d)
  | .memo _ => .any
  | .non => .non
  | .bl b => .bl b
  | .int i => .int i
  | .str x => .str x
  | .scr ns => .scr ns
  | .pool => .pool
  | .any => .any
  | .val v => .val v
  | .tab q => .tab q
def D.ums : List D → List D
  | [] => []
  | d :: ds => D.um d :: D.ums ds
end
theorem ums_nil : D.ums [] = [] := by unfold D.ums; rfl
theorem ums_cons {d : D} {ds : List D} : D.ums (d :: ds) = d.um :: D.ums ds := by rw [D.ums]
theorem um_int {i : Int} : (D.int i).um = .int i := by rw [D.um]
theorem um_lst {ds : List D} : (D.lst ds).um = .lst (D.ums ds) := by rw [D.um]
theorem um_tup {ds : List D} : (D.tup ds).um = .tup (D.ums ds) := by rw [D.um]
theorem um_ins {C : Addr} {ns : List Str} {ds : List D} : (D.ins C ns ds).um = .ins C ns (D.ums ds) := by rw [D.um]
theorem um_memo {d : D} : (D.memo d).um = .any := by rw [D.um]
theorem ums_map {α : Type} {f : α → D} (h : ∀ x, (f x).um = f x) : ∀ xs : List α, D.ums (xs.map f) = xs.map f
  | [] => ums_nil
  | x :: xs => by rw [List.map_cons, ums_cons, h, ums_map h xs]
theorem ums_ints (ns : List Int) : D.ums (ns.map D.int) = ns.map D.int := ums_map (fun _ => um_int) ns
theorem um_ints (ns : List Int) : (D.lst (ns.map D.int)).um = .lst (ns.map D.int) := by rw [um_lst, ums_ints]
section
variable {T U : Wd}
theorem vx_M {a : Addr} {k : D} (h : T.M a = some k) (hk : ∀ d, k ≠ .memo d) : T.vx.M a = some k := by
  show noM (T.M a) = _
  rw [h]
  cases k <;> first | rfl | exact absurd rfl (hk _)
theorem vx_F {a : Addr} (h : noM (T.M a) = none) : T.vx.F a = T.H a := by
  show (match noM (T.M a) with | none => T.H a | some _ => none) = _
  rw [h]
theorem vx_N {a : Addr} {k : D} (h : noM (T.M a) = some k) : T.vx.F a = none := by
  show (match noM (T.M a) with | none => T.H a | some _ => none) = _
  rw [h]
theorem noM_inv {o : Option D} {k : D} (h : noM o = some k) : o = some k ∧ ∀ d, k ≠ .memo d := by
  cases o with
  | none => cases h
  | some j =>
    cases j <;> first | (cases h; exact ⟨rfl, fun d z => by cases z⟩) | cases h
theorem vwx_F {a : Addr} {o : HO} (h : T.vw.F a = some o) : T.vx.F a = some o := by
  cases e : T.M a with
  | none =>
    rw [vw_F e] at h
    rw [vx_F (by rw [e]; rfl)]
    exact h
  | some k =>
    rw [vw_N e] at h
    cases h
mutual
theorem Rp.vx {K : PySem.W.Frag} : ∀ {d : D} {v : V}, Rp K T.vw d v → Rp K T.vx d.um v
  | .non, v, h => by rw [D.um]; unfold Rp at h ⊢; exact h
  | .bl b, v, h => by rw [D.um]; unfold Rp at h ⊢; exact h
  | .int i, v, h => by rw [D.um]; unfold Rp at h ⊢; exact h
  | .str x, v, h => by rw [D.um]; unfold Rp at h ⊢; exact h
  | .any, v, h => by rw [D.um]; unfold Rp; trivial
  | .val x, v, h => by rw [D.um]; unfold Rp at h ⊢; exact h
  | .memo _, v, h => by rw [D.um]; unfold Rp; trivial
  | .lst ds, v, h => by
    rw [D.um]
    unfold Rp at h ⊢
    obtain ⟨a, xs, e, f, r⟩ := h
    exact ⟨a, xs, e, vwx_F f, RpL.vx r⟩
  | .tup ds, v, h => by
    rw [D.um]
    unfold Rp at h ⊢
    obtain ⟨a, xs, e, f, r⟩ := h
    exact ⟨a, xs, e, sqt_mono (fun _ _ => vwx_F) f, RpL.vx r⟩
  | .scr ns, v, h => by
    rw [D.um]
    unfold Rp at h ⊢
    obtain ⟨a, e, f⟩ := h
    exact ⟨a, e, sql_mono (fun _ _ => vwx_F) f⟩
  | .pool, v, h => by
    rw [D.um]
    unfold Rp at h ⊢
    obtain ⟨a, e, f⟩ := h
    exact ⟨a, e, vx_M f fun d z => by cases z⟩
  | .tab q, v, h => by
    rw [D.um]
    unfold Rp at h ⊢
    obtain ⟨a, e, f⟩ := h
    exact ⟨a, e, vx_M f fun d z => by cases z⟩
  | .ins C ns ds, v, h => by
    rw [D.um]
    unfold Rp at h ⊢
    obtain ⟨a, dx, fs, e, f, n, r⟩ := h
    exact ⟨a, dx, fs, e, vwx_F f, n, RpL.vx r⟩
  | .dic a ks ds, v, h => by
    rw [D.um]
    unfold Rp at h ⊢
    obtain ⟨fs, e, f, n, r⟩ := h
    exact ⟨fs, e, vwx_F f, n, RpL.vx r⟩
  | .exc a dd d, v, h => by
    rw [D.um]
    unfold Rp at h ⊢
    obtain ⟨e, w, f, r⟩ := h
    exact ⟨e, w, vwx_F f, Rp.vx r⟩
theorem RpL.vx {K : PySem.W.Frag} : ∀ {ds : List D} {vs : List V}, RpL K T.vw ds vs → RpL K T.vx (D.ums ds) vs
  | [], vs, h => by rw [ums_nil]; unfold RpL at h ⊢; exact h
  | d :: ds, vs, h => by
    rw [ums_cons]
    unfold RpL at h ⊢
    obtain ⟨y, ys, e, r, t⟩ := h
    exact ⟨y, ys, e, Rp.vx r, RpL.vx t⟩
end
theorem vx_ok (ok : T.Ok) : T.vx.Ok := by
  refine ⟨fun a o e => ?_, fun a k e => ?_, fun c q e => vwx_F ((Le.vw ok).fz _ _ (ok.cod c q e))⟩
  · cases h : noM (T.M a) with
    | none =>
      rw [vx_F h] at e
      exact e
    | some k =>
      rw [vx_N h] at e
      cases e
  · have e : noM (T.M a) = some k := e
    obtain ⟨e1, e2⟩ := noM_inv e
    refine ⟨vx_N e, ?_⟩
    obtain ⟨_, ki⟩ := ok.kd a k e1
    cases k <;> first | exact ki.elim | exact absurd rfl (e2 _) | skip
    · exact ki
    · obtain ⟨ps, q, t, c⟩ := ki
      refine ⟨ps, q, t, fun pos cv hc => ?_⟩
      obtain ⟨c, e1, e2⟩ := c pos cv hc
      exact ⟨c, e1, vwx_F ((Le.vw ok).fz _ _ e2)⟩
theorem un_old {a : Addr} {o : HO} (h : T.H a = some o) : (U.un T).F a = T.F a := by
  show (match T.H a with | some _ => T.F a | none => U.F a) = _
  rw [h]
theorem un_new {a : Addr} (h : T.H a = none) : (U.un T).F a = U.F a := by
  show (match T.H a with | some _ => T.F a | none => U.F a) = _
  rw [h]
theorem un_oldM {a : Addr} {o : HO} (h : T.H a = some o) : (U.un T).M a = T.M a := by
  show (match T.H a with | some _ => T.M a | none => noM (U.M a)) = _
  rw [h]
theorem un_newM {a : Addr} (h : T.H a = none) : (U.un T).M a = noM (U.M a) := by
  show (match T.H a with | some _ => T.M a | none => noM (U.M a)) = _
  rw [h]
theorem un_code {c : Addr} {q : Str} (ok : T.Ok) (g : Gr T.vx U) (h : U.F c = some (LamX.CodeO c q)) : (U.un T).F c = some (LamX.CodeO c q) := by
  cases e : T.H c with
  | none =>
    rw [un_new e]
    exact h
  | some u =>
    rw [un_old e]
    cases m : noM (T.M c) with
    | none =>
      have z := g.fz c u (by rw [vx_F m]; exact e)
      rw [h] at z
      have z := Option.some.inj z
      rw [← z] at e
      exact ok.cod c q e
    | some k =>
      have z : U.M c = some k := (g.mu c u e).trans m
      rw [(g.ok.kd c k z).1] at h
      cases h
theorem Gr.un (ok : T.Ok) (g : Gr T.vx U) : Gr T (U.un T) := by
  have hfz : ∀ a o, T.F a = some o → (U.un T).F a = some o := fun a o e => by
    rw [un_old (ok.sub a o e)]
    exact e
  refine ⟨ok, ⟨fun a o e => ?_, fun a k e => ?_, fun c q e => un_code ok g (g.ok.cod c q e)⟩, hfz, fun a o e m => g.hp a o e (by show noM (T.M a) = none; rw [m]; rfl), fun a o e f => ?_, fun a o e => un_oldM e⟩
  · cases h : T.H a with
    | none =>
      rw [un_new h] at e
      exact g.ok.sub a o e
    | some u =>
      rw [un_old h] at e
      have z := g.fz a o (by rw [vx_F (by rw [ok.mfz e]; rfl)]; exact ok.sub a o e)
      exact g.ok.sub a o z
  · have code : ∀ {k : D}, (∀ d, k ≠ .memo d) → KInv U k a → KInv (U.un T) k a := fun {k} hk ki => by
      cases k <;> first | exact ki.elim | exact absurd rfl (hk _) | skip
      · exact ki
      · obtain ⟨ps, q, t, c⟩ := ki
        refine ⟨ps, q, t, fun pos cv hc => ?_⟩
        obtain ⟨c, e1, e2⟩ := c pos cv hc
        exact ⟨c, e1, un_code ok g e2⟩
    cases h : T.H a with
    | none =>
      rw [un_newM h] at e
      obtain ⟨e1, e2⟩ := noM_inv e
      obtain ⟨f, ki⟩ := g.ok.kd a k e1
      exact ⟨by rw [un_new h]; exact f, code e2 ki⟩
    | some u =>
      rw [un_oldM h] at e
      have kt := ok.kd a k e
      refine ⟨by rw [un_old h]; exact kt.1, ?_⟩
      by_cases hk : ∃ d, k = .memo d
      · obtain ⟨d, rfl⟩ := hk
        have hu : U.H a = some u := g.ok.sub _ _ (g.fz a u (by rw [vx_F (by rw [e]; rfl)]; exact h))
        refine kt.2.stay ⟨hfz, fun b k e => ?_⟩ (hu.trans h.symm)
        obtain ⟨o, ho⟩ := (ok.kd b k e).2.there
        rw [un_oldM ho]
        exact e
      · have hk : ∀ d, k ≠ .memo d := fun d z => hk ⟨d, z⟩
        exact code hk (g.ok.kd a k ((g.mu a u h).trans (vx_M e hk))).2
  · rw [un_old e]
    exact f
end
@[reducible] def D.flat : D → Bool
  | .non => true
  | .bl _ => true
  | .int _ => true
  | .str _ => true
  | _ => false
theorem Rp.flat {K : PySem.W.Frag} {S T : Wd} {d : D} {v : V} (h : d.flat = true) (r : Rp K S d v) : Rp K T d v := by
  cases d <;> first | (cases h; done) | (unfold Rp at r ⊢; exact r)
theorem RpL.flat {K : PySem.W.Frag} {S T : Wd} : ∀ {ds : List D} {vs : List V}, (∀ d ∈ ds, d.flat = true) → RpL K S ds vs → RpL K T ds vs
  | [], _, _, h => by rw [h.nil_inv]; exact RpL.nil
  | d :: ds, _, hf, h => by
    obtain ⟨y, ys, rfl, r, t⟩ := h.cons_inv
    exact RpL.cons (r.flat (hf d List.mem_cons_self)) (RpL.flat (fun e he => hf e (List.mem_cons_of_mem _ he)) t)
theorem flat_ints {ns : List Int} : ∀ d ∈ ns.map D.int, d.flat = true := fun d hd => by
  obtain ⟨i, _, rfl⟩ := List.mem_map.mp hd
  rfl
def EAV (K : PySem.W.Frag) (E : L2.St → XK) (ta : TA) (Γ : Ctx) (k : List D → Prop) (kx : Addr → D → Prop) : Prop := ∀ (S0 S : Wd) (σ : L2.St) (Q : List V → Hp → Prop), EnvOk K S0 S σ Γ → (∀ (T : Wd) vs ds, Gr S T → RpL K T.vw ds vs → k ds → Q vs T.H) → XP K (E σ) S kx → ta σ S.H Q
def tVw (t : TE) : TE := t
theorem pe_vw {X : Cx} {e : Expr} {t : TE} (h : PE X e t) : PE X e (tVw t) := h
section
variable {K : PySem.W.Frag} {E : L2.St → XK} {S0 S T : Wd} {te ta tb tc tl : TE} {tt uu : TT} {t u : TS} {Γ : Ctx} {k k' : D → Prop} {kx : Addr → D → Prop} {P : Po} {kl : List D → Prop} {ko : O → Prop} {al : TA} {C : Addr}
theorem eav_nil (h : kl []) : EAV K E tNil Γ kl kx := fun S0 S σ Q e q x => q S [] [] (Gr.refl e.ok) RpL.nil h
theorem eav_cons (h : EV K E te Γ (fun d => EAV K E al Γ (fun ds => kl (d :: ds)) kx) kx) : EAV K E (tCons te al) Γ kl kx := fun S0 S σ Q e q x =>
  h S0 S σ _ e (fun T v d g r h2 => h2 S0 T σ _ (e.gr g) (fun U vs ds g2 r2 kd => q U (v :: vs) (d :: ds) (g.trans g2) (RpL.cons (r.mono (vw_le g2)) r2) kd) (x.gr g)) x
theorem en_callV {wp : WPN} (h : EAV K E al Γ (fun ds => wp (D.ums ds) (fun es => (∀ e ∈ es, e.flat = true) ∧ kl es) F0) kx) : EN K E (tVw (tCallSD (spN K wp) [] ES0 al)) Γ kl kx := fun S0 S σ Q e q x =>
  h S0 S σ _ e (fun T vs ds g r w => by
    rw [List.append_nil]
    exact ⟨T.vx, D.ums ds, _, F0, vx_ok g.ok, rfl, r.vx, w, fun U p xs es g2 a b c d r2 kd => q (U.un T) p xs es (g.trans (Gr.un g.ok g2)) (g.new a) b (by rw [un_new (show T.H p = none from a)]; exact c) (by rw [un_newM (show T.H p = none from a), d]; rfl) (r2.flat kd.1) kd.2, xp0⟩) x
theorem ec_callV {wp : WP} (h : EAV K E al Γ (fun ds => wp (D.ums ds) (fun d => d.flat = true ∧ k d) F0) kx) : EC K E (tVw (tCallSD (spD K wp) [] ES0 al)) Γ k kx := fun S0 S σ Q e q x =>
  h S0 S σ _ e (fun T vs ds g r w => by
    rw [List.append_nil]
    exact ⟨T.vx, D.ums ds, _, F0, vx_ok g.ok, rfl, r.vx, w, fun U v d g2 r2 kd => q (U.un T) v d (g.trans (Gr.un g.ok g2)) (r2.flat kd.1) kd.2, xp0⟩) x
/-! ### trees that are written down -/
theorem OwL.fresh {os : List O} {vs : List V} {A : List Addr} {p : Addr} (r : OwL K S0 S os vs A) (h : S.H p = none) : p ∉ A := fun z => by
  obtain ⟨_, u, e⟩ := r.there p z
  rw [h] at e
  cases e
theorem ew_lst (h : EAW K E al Γ (fun os => os.length ≤ 1000 ∧ ko (.lst os)) kx) : EW K E (tLst al) Γ ko kx := fun S0 S σ Q e q x =>
  h S0 S σ _ e (fun T vs os A g r n ⟨hl, kd⟩ => ⟨by rw [r.length]; exact Nat.le_trans hl (by decide), fun p hn => by
    have g2 := Gr.layO g.ok hn (.lst vs)
    refine q ⟨T.F, upd T.H p (.lst vs), T.M⟩ _ (.lst os) (p :: A) (g.trans g2) ?_ (List.nodup_cons.mpr ⟨r.fresh hn, n⟩) kd
    unfold Ow
    exact ⟨p, vs, A, rfl, rfl, upd_same, ⟨g.ok.fnone hn, g.ok.mnone hn, g.new hn⟩, r.keeps (Keeps.gr g2)⟩⟩) x
theorem ew_tup (h : EAW K E al Γ (fun os => os.length ≤ 1000 ∧ ko (.tup os)) kx) : EW K E (tTup al) Γ ko kx := fun S0 S σ Q e q x =>
  h S0 S σ _ e (fun T vs os A g r n ⟨hl, kd⟩ => ⟨by rw [r.length]; exact Nat.le_trans hl (by decide), fun p hn => by
    have g2 := Gr.lay g.ok hn (.tup vs)
    refine q ⟨upd T.F p (.tup vs), upd T.H p (.tup vs), T.M⟩ _ (.tup os) A (g.trans g2) ?_ n kd
    unfold Ow
    exact ⟨p, vs, rfl, upd_same, r.keeps (Keeps.gr g2)⟩⟩) x
/-- a slot as a tree -/
@[reducible] def slO : Sl → Option O
  | .un => none
  | .dat d => some (.fz d)
  | .own ds => some (.lst (ds.map .fz))
  | .tre o => some o
  | .fct d _ => some (.fz d)
theorem SlO.ow {s : Sl} {x : Option (Option V)} {A : List Addr} {o : O} (h : SlO K S0 S s x A) (e : slO s = some o) : ∃ v, x = some (some v) ∧ Ow K S0 S o v A := by
  cases s with
  | un => cases e
  | dat d =>
    cases e
    obtain ⟨rfl, v, q, r⟩ := h
    exact ⟨v, q, by unfold Ow; exact ⟨rfl, r⟩⟩
  | own ds =>
    cases e
    exact SlO.own_tre.mp h
  | tre o' =>
    cases e
    exact h
  | fct d f =>
    cases e
    obtain ⟨rfl, ⟨v, q, r⟩, _⟩ := h
    exact ⟨v, q, by unfold Ow; exact ⟨rfl, r⟩⟩
/-- return (a, b): what the two slots own is given away -/
theorem sc_retTup2 {i j : Nat} {s1 s2 : Sl} {o1 o2 : O} (hij : i ≠ j) (h1 : Γ[i]? = some s1) (h2 : Γ[j]? = some s2) (e1 : slO s1 = some o1) (e2 : slO s2 = some o2) (hk : P.rw (.tup [o1, o2])) : SC K E (tRet (tTup (tCons (tVar i) (tCons (tVar j) tNil)))) Γ P := fun S0 S σ D g e G => by
  obtain ⟨A, hA, dis, nd, _⟩ := e.fp
  obtain ⟨v1, q1, r1⟩ := (hA i s1 h1).ow e1
  obtain ⟨v2, q2, r2⟩ := (hA j s2 h2).ow e2
  refine ⟨v1, q1, v2, q2, big (Nat.le_of_ble_eq_true rfl), fun p hn => ?_⟩
  have g2 := Gr.lay e.ok hn (.tup [v1, v2])
  refine G.rw ⟨upd S.F p (.tup [v1, v2]), upd S.H p (.tup [v1, v2]), S.M⟩ (.ref p) (.tup [o1, o2]) (A i ++ (A j ++ [])) (g.trans g2) ?_ ?_ hk
  · unfold Ow
    exact ⟨p, [v1, v2], rfl, upd_same, OwL.cons (r1.keeps (Keeps.gr g2)) (OwL.cons (r2.keeps (Keeps.gr g2)) OwL.nil)⟩
  · rw [List.append_nil]
    exact List.nodup_append.mpr ⟨nd i, nd j, fun a ha b hb z => dis i j a hij ha (z ▸ hb)⟩
/-- a row of a tree, to be read -/
theorem el_ixT {i : Nat} {rows : List (List D)} (h : Γ[i]? = some (.tre (rowsO rows))) (hi : EC K E tb Γ (fun y => ∃ (z : Int) (r : List D), y = .int z ∧ atI rows z = some r ∧ kl r) kx) : EL K E (tOp (rIxL K) (tVar i) tb) Γ kl kx := fun S0 S σ Q e q x => by
  obtain ⟨v, A, h1, ro, nd⟩ := e.tre i _ h
  refine ⟨_, h1, hi S0 S σ _ e (fun T wz y g2 r2 ⟨z, r, ey, ha, hk⟩ => ?_) x⟩
  subst ey
  have ro' := ro.keeps (Keeps.gr g2)
  unfold rowsO Ow at ro'
  obtain ⟨l, xs, B, rfl, rfl, hp, w, rl⟩ := ro'
  unfold atI at ha
  cases hj : ixN rows.length z with
  | none =>
    rw [hj] at ha
    cases ha
  | some j =>
    rw [hj] at ha
    have ha : rows[j]? = some r := ha
    have hrow : (rows.map fun r => O.lst (r.map O.fz))[j]? = some (.lst (r.map .fz)) := by rw [List.getElem?_map, ha]; rfl
    obtain ⟨rv, A1, B1, A2, ex, eB, rr, up⟩ := rl.at hrow
    unfold Ow at rr
    obtain ⟨lr, ys, B2, rfl, rfl, hpr, wr, rrl⟩ := rr
    obtain ⟨rfl, rd⟩ := rrl.to_fz
    have hlx : xs.length = rows.length := by
      have := rl.length
      rw [List.length_map] at this
      exact this
    refine ⟨l, xs, z, .ref lr, rfl, r2.int, SqL.of hp, ?_, q T lr ys r g2 hpr wr.m rd hk⟩
    unfold atI
    rw [hlx, hj]
    exact ex
/-- a row of a new tree: it is new -/
theorem en_ixW (h : EW K E ta Γ (fun o => ∃ rows, o = rowsO rows ∧ EC K E tb Γ (fun y => ∃ (z : Int) (r : List D), y = .int z ∧ atI rows z = some r ∧ kl r) kx) kx) : EN K E (tOp (rIxL K) ta tb) Γ kl kx := fun S0 S σ Q e q x =>
  h S0 S σ _ e (fun T v o A g ro nd ⟨rows, eo, h2⟩ => by
    subst eo
    refine h2 S0 T σ _ (e.gr g) (fun U wz y g2 r2 ⟨z, r, ey, ha, hk⟩ => ?_) (x.gr g)
    subst ey
    have ro' := ro.keeps (Keeps.gr g2)
    unfold rowsO Ow at ro'
    obtain ⟨l, xs, B, rfl, rfl, hp, w, rl⟩ := ro'
    unfold atI at ha
    cases hj : ixN rows.length z with
    | none =>
      rw [hj] at ha
      cases ha
    | some j =>
      rw [hj] at ha
      have ha : rows[j]? = some r := ha
      have hrow : (rows.map fun r => O.lst (r.map O.fz))[j]? = some (.lst (r.map .fz)) := by rw [List.getElem?_map, ha]; rfl
      obtain ⟨rv, A1, B1, A2, ex, eB, rr, up⟩ := rl.at hrow
      unfold Ow at rr
      obtain ⟨lr, ys, B2, rfl, rfl, hpr, wr, rrl⟩ := rr
      obtain ⟨rfl, rd⟩ := rrl.to_fz
      have hlx : xs.length = rows.length := by
        have := rl.length
        rw [List.length_map] at this
        exact this
      refine ⟨l, xs, z, .ref lr, rfl, r2.int, SqL.of hp, ?_, q U lr ys r (g.trans g2) wr.n hpr wr.f wr.m rd hk⟩
      unfold atI
      rw [hlx, hj]
      exact ex) x
/-- found.append(e), e a new tree -/
theorem sc_appendT {i : Nat} {os : List O} (h : Γ[i]? = some (.tre (.lst os))) (hl : os.length < 1000000) (he : EW K E te Γ (fun o => P.nx (Γ.set i (.tre (.lst (os ++ [o]))))) (P.kx Γ)) : SC K E (tDrop (tBM K "list" rAppend (tVar i) (tCons te tNil))) Γ P := fun S0 S σ D g e G => by
  obtain ⟨v, A, h1, ro, nd⟩ := e.tre i _ h
  have ro0 := ro
  unfold Ow at ro0
  obtain ⟨l0, xs0, B0, rfl, rfl, hp0, w0, rl0⟩ := ro0
  refine ⟨_, h1, .inl ⟨rfl, xs0, SqL.of hp0⟩, ?_⟩
  refine he S0 S σ _ e (fun T vo o A2 g2 r2 n2 kd => ?_) (G.kx S σ Γ g (Le.refl S) e)
  have e2 := e.gr g2
  have hp := g2.hp _ _ hp0 w0.m
  have w : Own S0 T l0 := ⟨g2.fr _ _ hp0 w0.f, by rw [g2.mu _ _ hp0, w0.m], w0.n⟩
  have hlx : xs0.length = os.length := rl0.length
  refine ⟨l0, xs0, vo, rfl, rfl, hp, by rw [hlx]; exact bigL hl, ?_⟩
  have ok2 : Wd.Ok ⟨T.F, upd T.H l0 (.lst (xs0 ++ [vo])), T.M⟩ := g2.ok.change w.f w.m
  have hn2 : ∀ a ∈ A2, S.H a = none := fun a ha => (r2.there a ha).1.n
  have l0A : l0 ∉ A2 := fun z => by
    have := hn2 l0 z
    rw [hp0] at this
    cases this
  have gl : Gr S0 ⟨T.F, upd T.H l0 (.lst (xs0 ++ [vo])), T.M⟩ := (g.trans g2).change w.n w.f w.m _
  refine G.nx _ σ _ gl (g2.le.trans (Le.chg T l0 _)) ?_ kd
  have e4 := e.step i (T := ⟨T.F, upd T.H l0 (.lst (xs0 ++ [vo])), T.M⟩) (s' := .tre (.lst (os ++ [o]))) (x' := some (.ref l0)) ok2 fun B hB nB => by
    obtain ⟨y, q0, r0⟩ := hB _ h
    rw [h1] at q0
    cases q0
    unfold Ow at r0
    obtain ⟨l', xs', B', rfl, e', hp', w', rl'⟩ := r0
    cases e'
    rw [hp0] at hp'
    cases hp'
    have nB' := List.nodup_cons.mp nB
    refine ⟨fun A hA => ?_, l0 :: (B' ++ (A2 ++ [])), ⟨.ref l0, rfl, ?_⟩, ?_, fun a ha => ?_⟩
    · have k1 : Keeps S0 S T A := Keeps.gr g2
      have k2 : Keeps S0 T ⟨T.F, upd T.H l0 (.lst (xs0 ++ [vo])), T.M⟩ A := Keeps.chg fun z => hA l0 z List.mem_cons_self
      exact ⟨k1.le.trans k2.le, fun a ha w o e => k2.hp a ha (k1.ow a ha w ⟨o, e⟩) o (k1.hp a ha w o e), fun a ha w ⟨o, e⟩ => k2.ow a ha (k1.ow a ha w ⟨o, e⟩) ⟨o, k1.hp a ha w o e⟩⟩
    · unfold Ow
      refine ⟨l0, xs0 ++ [vo], _, rfl, rfl, upd_same, ⟨w.f, w.m, w.n⟩, ?_⟩
      refine OwL.append ((rl'.keeps (Keeps.gr g2)).keeps (Keeps.chg nB'.1)) (OwL.cons ((r2.base fun a ha => g.new ha).keeps (Keeps.chg l0A)) OwL.nil)
    · rw [List.append_nil, List.nodup_cons]
      refine ⟨fun z => ?_, List.nodup_append.mpr ⟨nB'.2, n2, fun a ha b hb z => ?_⟩⟩
      · rcases List.mem_append.mp z with z | z
        · exact nB'.1 z
        · exact l0A z
      · subst z
        obtain ⟨_, u, e1⟩ := rl'.there a ha
        rw [hn2 a hb] at e1
        cases e1
    · rcases List.mem_cons.mp ha with z | z
      · exact .inl (z ▸ List.mem_cons_self)
      · rw [List.append_nil] at z
        rcases List.mem_append.mp z with z | z
        · exact .inl (List.mem_cons_of_mem _ z)
        · exact .inr (hn2 a z)
  rw [EnvOk.same h1] at e4
  exact e4
theorem rowsO_snoc (rows : List (List D)) (ds : List D) : O.lst ((rows.map fun r => O.lst (r.map O.fz)) ++ [.lst (ds.map .fz)]) = rowsO (rows ++ [ds]) := by
  unfold rowsO
  rw [List.map_append]
  rfl
theorem sc_appendNR {i : Nat} {rows : List (List D)} (h : Γ[i]? = some (.tre (rowsO rows))) (hl : rows.length < 1000000) (he : EN K E te Γ (fun ds => P.nx (Γ.set i (.tre (rowsO (rows ++ [ds]))))) (P.kx Γ)) : SC K E (tDrop (tBM K "list" rAppend (tVar i) (tCons te tNil))) Γ P :=
  sc_appendT (os := rows.map fun (r : List D) => O.lst (r.map O.fz)) (by unfold rowsO at h; exact h) (by rw [List.length_map]; exact hl) (ew_new (fun o => P.nx (Γ.set i (.tre (.lst ((rows.map fun r => O.lst (r.map O.fz)) ++ [o]))))) (he.mono fun ds hk => by
    rw [rowsO_snoc]
    exact hk))
/-- is None of what is looked at -/
theorem isN_vw {d : D} {v : V} {b : Bool} (r : Rp K S d v) (ed : d.isN = some b) : decide (v = V.non) = b := by
  cases d <;> unfold Rp at r <;> first
    | (cases ed; subst r; rfl)
    | (cases ed; obtain ⟨_, _, r, _⟩ := r; subst r; rfl)
    | (cases ed; obtain ⟨_, r, _⟩ := r; subst r; rfl)
    | (cases ed; obtain ⟨_, _, _, r, _⟩ := r; subst r; rfl)
    | (cases ed; obtain ⟨r, _⟩ := r; subst r; rfl)
    | cases ed
theorem ec_isNV (h : EV K E ta Γ (fun x => ∃ b, x.isN = some b ∧ k (.bl b)) kx) : EC K E (tIsN ta) Γ k kx := fun S0 S σ Q e q x =>
  h S0 S σ _ e (fun T v d g r ⟨b, ed, kd⟩ => by
    rw [isN_vw r ed]
    exact q T _ _ g (by unfold Rp; rfl) kd) x
theorem ec_notNV (h : EV K E ta Γ (fun x => ∃ b, x.isN = some b ∧ k (.bl (!b))) kx) : EC K E (tNotN ta) Γ k kx := fun S0 S σ Q e q x =>
  h S0 S σ _ e (fun T v d g r ⟨b, ed, kd⟩ => by
    rw [isN_vw r ed]
    exact q T _ _ g (by unfold Rp; rfl) kd) x
/-- x = [word, door()] -/
theorem sc_doorAsg {W : WX} {n i : Nat} {f c' : Addr} {q w : Str} {tl : XK → Hp → VK → Prop} {c : CMP} (h0 : Γ[0]? = some (.fct (.val (.ref f)) (Thunk K c' q tl c))) (hn : Γ.length = n) (h : c (fun d => P.nx (Γ.set i (.dat (.lst [.str w, d])))) (P.kx (List.replicate n .un))) :
    SC K (WE W) (tAsg (tLst (tCons (tC (.str w)) (tCons (tDoor n f c' q tl W) tNil))) (gName i)) Γ P := fun S0 S σ D g e G => by
  obtain ⟨⟨v, hv, rv⟩, hf⟩ := e.fct h0
  unfold Rp at rv
  subst rv
  obtain ⟨hF, run⟩ := hf S (Le.refl S)
  refine ⟨fun cls d H' => ∀ σ' : L2.St, σ'.length = n → W cls d σ' H', fun cls d σ' H' hl hE => hE σ' hl, hv, e.ok.sub _ _ hF, run e.ok _ _ _ _ h (fun U v d g2 r kd => ⟨big (Nat.le_of_ble_eq_true rfl), fun p hp => ?_⟩) fun T C o d g2 xv hk σ' hl => ?_⟩
  · have g3 := Gr.lay g2.ok hp (.lst [.str w, v])
    have g23 := g2.trans g3
    refine G.nx ⟨upd U.F p (.lst [.str w, v]), upd U.H p (.lst [.str w, v]), U.M⟩ _ _ (g.trans g23) g23.le ((e.gr g23).setDat (i := i) (d := .lst [.str w, d]) (v := .ref p) ?_) kd
    unfold Rp
    exact ⟨p, _, rfl, upd_same, RpL.cons (by unfold Rp; rfl) (RpL.cons (r.mono g3.le) RpL.nil)⟩
  · exact G.kx T σ' _ (g.trans g2) g2.le (env_un g2.ok hl) T C o d (Gr.refl g2.ok) xv hk
/-- t[c].append(e), t a tuple of one's own -/
theorem sc_appendTp {i : Nat} {os : List O} {ti : TE} (h : Γ[i]? = some (.tre (.tup os))) (hi : EC K E ti Γ (fun y => ∃ (z : Int) (j : Nat) (r : List D), y = .int z ∧ ixN os.length z = some j ∧ os[j]? = some (.lst (r.map .fz)) ∧ r.length < 1000000 ∧ EC K E te Γ (fun d => P.nx (Γ.set i (.tre (.tup (os.set j (.lst ((r ++ [d]).map .fz))))))) (P.kx Γ)) (P.kx Γ)) :
    SC K E (tDrop (tBM K "list" rAppend (tOp (rIxT K) (tVar i) ti) (tCons te tNil))) Γ P := fun S0 S σ D g e G => by
  obtain ⟨v, A, h1, ro, nd⟩ := e.tre i _ h
  refine ⟨_, h1, ?_⟩
  refine hi S0 S σ _ e (fun T wz y g2 r2 ⟨z, j, r, ey, hj, hr, hl, h3⟩ => ?_) (G.kx S σ Γ g (Le.refl S) e)
  subst ey
  have e2 := e.gr g2
  have ro' := ro.keeps (Keeps.gr g2)
  unfold Ow at ro'
  obtain ⟨l, xs, rfl, sq, rl⟩ := ro'
  obtain ⟨rv, A1, B1, A2, ex, eB, rr, up⟩ := rl.at hr
  unfold Ow at rr
  obtain ⟨lr, ys, B2, rfl, rfl, hpr, wr, rrl⟩ := rr
  obtain ⟨rfl, rd⟩ := rrl.to_fz
  have hlx : xs.length = os.length := rl.length
  refine ⟨l, xs, z, .ref lr, rfl, r2.int, SqT.of (g2.ok.sub _ _ sq), ?_, ⟨.inl ⟨rfl, ys, SqL.of hpr⟩, ?_⟩⟩
  · unfold atI
    rw [hlx, hj]
    exact ex
  refine h3 S0 T σ _ e2 (fun U vd d g3 rdd kd => ?_) (G.kx T σ Γ (g.trans g2) g2.le e2)
  have g23 := g2.trans g3
  have wr3 : Own S0 U lr := ⟨g3.fr _ _ hpr wr.f, by rw [g3.mu _ _ hpr, wr.m], wr.n⟩
  have hpr3 := g3.hp _ _ hpr wr.m
  refine ⟨lr, ys, vd, rfl, rfl, hpr3, by rw [rd.length]; exact bigL hl, ?_⟩
  have ok2 : Wd.Ok ⟨U.F, upd U.H lr (.lst (ys ++ [vd])), U.M⟩ := g3.ok.change wr3.f wr3.m
  have e4 := (e2.gr g3).step i (s' := .tre (.tup (os.set j (.lst ((r ++ [d]).map .fz))))) (x' := some (.ref l)) ok2 fun B0 hB0 n0 => by
    obtain ⟨y, q0, r0⟩ := hB0 _ h
    rw [h1] at q0
    cases q0
    unfold Ow at r0
    obtain ⟨l', xs', e', sq', rl'⟩ := r0
    cases e'
    rw [g3.le.fz _ _ sq] at sq'
    cases sq'
    obtain ⟨rv', A1', B1', A2', ex', eB', rr', up'⟩ := rl'.at hr
    rw [ex] at ex'
    cases ex'
    unfold Ow at rr'
    obtain ⟨lr', ys', B2', rfl, e', hpr', wr', rrl'⟩ := rr'
    cases e'
    rw [hpr3] at hpr'
    cases hpr'
    obtain ⟨rfl, rd'⟩ := rrl'.to_fz
    subst eB'
    have nr : lr ∉ A1' ++ A2' := by
      intro z
      rw [List.nodup_append] at n0
      obtain ⟨_, n3, n4⟩ := n0
      rcases List.mem_append.mp z with z | z
      · exact n4 lr z lr (by simp) rfl
      · have : lr ∉ A2' := by
          have := (List.nodup_append.mp n3).2.2
          exact fun y => this lr (by simp) lr y rfl
        exact this z
    refine ⟨fun A hA => Keeps.chg fun z => hA lr z (by simp), A1' ++ ([lr] ++ A2'), ⟨.ref l, rfl, ?_⟩, n0, fun a ha => .inl ha⟩
    unfold Ow
    refine ⟨l, xs, rfl, g3.le.fz _ _ sq, ?_⟩
    have new := up' (T := ⟨U.F, upd U.H lr (.lst (ys ++ [vd])), U.M⟩) (o' := .lst ((r ++ [d]).map .fz)) (v' := .ref lr) (B' := [lr]) (Keeps.chg nr) (by
      unfold Ow
      refine ⟨lr, ys ++ [vd], [], rfl, rfl, upd_same, ⟨wr3.f, wr3.m, wr3.n⟩, OwL.of_fz (RpL.append ((rd'.mono (Le.chg U lr _))) (RpL.cons (rdd.mono (Le.chg U lr _)) RpL.nil))⟩)
    have es : xs.set j (.ref lr) = xs := by
      apply List.ext_getElem?
      intro q
      by_cases hq : j = q
      · subst hq
        rw [List.getElem?_set_self (List.getElem?_eq_some_iff.mp ex).1, ex]
      · rw [List.getElem?_set_ne hq]
    rw [es] at new
    exact new
  rw [EnvOk.same h1] at e4
  exact G.nx _ σ _ (((g.trans g23)).change wr3.n wr3.f wr3.m _) (g23.le.trans (Le.chg U lr _)) e4 kd
end
theorem ite_nrfl {α : Type} {a : α} {A B : Prop} [Decidable (a = a)] (b : B) : if (!decide (a = a)) = true then A else B := ite_nF rfl b
theorem ite_rfl {α : Type} {a : α} {A B : Prop} [Decidable (a = a)] (b : A) : if decide (a = a) = true then A else B := ite_dT rfl b
/-! ### defs that get data and give a tree -/
abbrev WPX := List D → (O → Prop) → (Addr → D → Prop) → Prop
def spX (K : PySem.W.Frag) (wp : WPX) : Sp := fun vs H Q E => ∃ (S : Wd) (ds : List D) (k : O → Prop) (kx : Addr → D → Prop), S.Ok ∧ S.H = H ∧ RpL K S ds vs ∧ wp ds k kx ∧ (∀ (T : Wd) v o A, Gr S T → Ow K S T o v A → A.Nodup → k o → Q v T.H) ∧ XP K E S kx
section
variable {K : PySem.W.Frag} {E : L2.St → XK} {Γ : Ctx} {kx : Addr → D → Prop} {ko : O → Prop} {t : TA}
theorem ew_callX {wp : WPX} (h : EA K E t Γ (fun ds => wp ds ko kx) kx) : EW K E (tCallSD (spX K wp) [] E t) Γ ko kx := fun S0 S σ Q e q x =>
  h S0 S σ _ e (fun T vs ds g r w => by
    rw [List.append_nil]
    exact ⟨T, ds, ko, kx, g.ok, rfl, r, w, fun U v o A g2 r2 n kd => q U v o A (g.trans g2) (r2.base fun a ha => g.new ha) n kd, x.gr g⟩) x
theorem ew_callX0 {wp : WPX} (h : EA K E t Γ (fun ds => wp ds ko F0) kx) : EW K E (tCallSD (spX K wp) [] ES0 t) Γ ko kx := fun S0 S σ Q e q x =>
  h S0 S σ _ e (fun T vs ds g r w => by
    rw [List.append_nil]
    exact ⟨T, ds, ko, F0, g.ok, rfl, r, w, fun U v o A g2 r2 n kd => q U v o A (g.trans g2) (r2.base fun a ha => g.new ha) n kd, xp0⟩) x
end
theorem okX {P : Program} {w : World} {K : PySem.W.Frag} {mg : Str → Option Value} {base : Heap} {x qual : Str} {st : Stmt} {f : Addr} {fd : FuncData} {N ps : List Str} {k : Nat} {wp : WPX} (F : Fun K x qual st f fd) (S : FnScope N ps (defScope st)) (len : ∀ ds q kx, wp ds q kx → ds.length = ps.length)
    (body : ∀ (cdv : Value) (A : Around) (outer : List Env) (s : Shared) (H : Hp) (E : XK), Room k (A.deeper (envOfC qual (defScope st) s.heap.objs.size f cdv)) →
      ∃ t, PSs (cxOf (L2.CX P w) P w K mg base N qual (defScope st) f cdv A outer s H E) (defBody st) t ∧ ∀ ds q kx, wp ds q kx → SC K (fun _ => E) t (start N.length ds) { nx := fun _ => q (.fz .non), rt := fun d => q (.fz d), rn := fun ds => q (.lst (ds.map .fz)), rw := q, kx := fun _ => kx }) : FnOk P w K mg base (L2.CX P w) (k + 1) f fd ps (spX K wp) := by
  refine F.okX S (fun vs H Q E h => ?_) (fun cdv A outer s H vs Q E hr h => ?_)
  · obtain ⟨T, ds, q, kx, _, _, r, hw, _⟩ := h
    rw [r.length]
    exact len ds q kx hw
  · obtain ⟨T, ds, q, kx, ok, eH, r, hw, hQ, hx⟩ := h
    subst eH
    obtain ⟨t, ht, hb⟩ := body cdv A outer s T.H E hr
    refine ⟨t, ht, hb ds q kx hw T T _ _ (Gr.refl ok) (env_start ok r) ⟨fun U τ Δ g _ _ h => hQ U .non (.fz .non) [] g (by unfold Ow Rp; exact ⟨rfl, rfl⟩) List.nodup_nil h, fun U v d g r h => hQ U v (.fz d) [] g (by unfold Ow; exact ⟨rfl, r⟩) List.nodup_nil h, fun U p xs es g a b c d r h => hQ U (.ref p) (.lst (es.map .fz)) [p] g (by
      unfold Ow
      exact ⟨p, xs, [], rfl, rfl, b, ⟨c, d, a⟩, OwL.of_fz r⟩) nodup1 h, fun U v o A g r n h => hQ U v o A g r n h, fun _ _ _ _ _ _ h => h.elim, fun _ _ _ _ _ _ h => h.elim, fun U τ Δ g l e => hx.gr g⟩⟩
end Z

namespace Z
open PySem PySem.Spec PyProof.Rows L2
/-! ### returns of trees, truth of lists -/
def tRetX (te : TE) : TS := tRet te
theorem ps_retX {X : Cx} {st : Stmt} {te : TE} (h : PS X st (tRet te)) : PS X st (tRetX te) := h
section
variable {K : PySem.W.Frag} {E : L2.St → XK} {S0 S T : Wd} {te ta tb tc tl : TE} {tt uu : TT} {t u : TS} {Γ : Ctx} {k k' : D → Prop} {kx : Addr → D → Prop} {P : Po} {kl : List D → Prop} {ko : O → Prop} {al : TA} {C : Addr}
theorem sc_retX (h : EW K E te Γ P.rw (P.kx Γ)) : SC K E (tRetX te) Γ P := sc_retW h
theorem sc_retXN (h : EN K E te Γ (fun ds => P.rw (.lst (ds.map .fz))) (P.kx Γ)) : SC K E (tRetX te) Γ P := sc_retW (ew_new P.rw h)
theorem sc_retXT2 {i j : Nat} {s1 s2 : Sl} {o1 o2 : O} (hij : i ≠ j) (h1 : Γ[i]? = some s1) (h2 : Γ[j]? = some s2) (e1 : slO s1 = some o1) (e2 : slO s2 = some o2) (hk : P.rw (.tup [o1, o2])) : SC K E (tRetX (tTup (tCons (tVar i) (tCons (tVar j) tNil)))) Γ P := sc_retTup2 hij h1 h2 e1 e2 hk
theorem sc_seqRX (h : SC K E (tIfS tt (tRetX te) tNext) Γ { P with nx := fun Δ => SC K E u Δ P }) : SC K E (tSeq (tIfS tt (tRetX te) tNext) u) Γ P := sc_seq h
/-- if xs -/
theorem et_truL {kb : Bool → Prop} (h : EL K E ta Γ (fun ds => kb (!ds.isEmpty)) kx) : ET K E (tTru K ta) Γ kb kx := fun S0 S σ Q e q x =>
  h S0 S σ _ e (fun T p xs ds g hp hm r kd => ⟨!xs.isEmpty, .inl ⟨xs, SqL.of hp, rfl⟩, q T _ g (by
    have : xs.isEmpty = ds.isEmpty := by
      have := r.length
      cases xs <;> cases ds <;> simp_all
    rw [this]
    exact kd)⟩) x
theorem et_truN {kb : Bool → Prop} {d : D} (h : EC K E ta Γ (fun x => x = .non ∧ kb false) kx) : ET K E (tTru K ta) Γ kb kx := fun S0 S σ Q e q x =>
  h S0 S σ _ e (fun T v d g r ⟨ed, kd⟩ => by
    subst ed
    unfold Rp at r
    subst r
    exact ⟨false, rfl, q T _ g kd⟩) x
end
section
variable {X : Cx}
theorem op_eqS (hu : X.A.units + 65 < cLine) : OpR X (compareOp .Eq) (rEqS X.K) := by
  intro pins s σ H x y v u Q I rx ry h
  obtain ⟨a, b, xs, ys, rfl, rfl, ha, hb, hp, q⟩ := h
  cases rx
  cases ry
  obtain ⟨us, ru, pl, _⟩ := I.list ha
  obtain ⟨vs, rv, pl2, _⟩ := I.list hb
  obtain ⟨hl, he⟩ := same_all I (A := X.A.in1) (by show X.A.units + 1 + 64 < cLine; omega) hp ru rv
  have := SeqAt.RcAt.lists (A := X.A) (e := fun _ => true) pl.isList pl2.isList (by simpa using hl) (by omega) (fun j h1 h2 => he j _ _ (by simp) (by simp))
  have e0 : ((List.range us.toArray.size).all fun _ => true) = true := by simp
  rw [e0] at this
  exact this X.prog X.w _ _ ⟨.bl true, H, I, rfl, q⟩
theorem kop_eqS (K : PySem.W.Frag) (hu : X.A.units + 65 < cLine) (hK : X.K = K := by rfl) : OpR X (compareOp .Eq) (rEqS K) := hK ▸ op_eqS hu
end
def tParP (i j : Nat) (t : TA) : TS := tPar i j t
theorem ps_parP {X : Cx} {st : Stmt} {i j : Nat} {t : TA} (h : PS X st (tPar i j t)) : PS X st (tParP i j t) := h
/-- the first data, the second a list of one's own -/
theorem sc_parDO {K : PySem.W.Frag} {E : L2.St → XK} {ta te : TE} {Γ : Ctx} {P : Po} {i j : Nat} (h : EC K E ta Γ (fun d => EN K E te Γ (fun ds => P.nx ((Γ.set i (.dat d)).set j (.own ds))) (P.kx Γ)) (P.kx Γ)) : SC K E (tParP i j (tCons ta (tCons te tNil))) Γ P := fun S0 S σ D g e G =>
  h S0 S σ _ e (fun T v d g2 r h2 => h2 S0 T σ _ (e.gr g2) (fun U p xs ds g3 hn hp hf hm r3 kd => by
    have e3 := ((e.gr g2).setDat (i := i) r).bindOwn g3 j ((g.trans g2).new hn) hn hp hf hm r3
    exact ⟨_, _, rfl, G.nx U _ _ (g.trans (g2.trans g3)) (g2.trans g3).le e3 kd⟩) (G.kx T σ Γ (g.trans g2) g2.le (e.gr g2))) (G.kx S σ Γ g (Le.refl S) e)
theorem kpe_bm (K : PySem.W.Frag) {X : Cx} {T : String} {name : Str} {id : String} {r : V → List V → Hp → VK → Prop} {o e : Expr} {es : List Expr} {to : TE} {t : TA} {apos cpos : Pos} (pa : PlainAttrs T) (slot : Slot T name id) (hty : typeOf (.builtin id) = pure (.type "method_descriptor")) (hm : MtR X id r) (ho : PE X o to) (ha : PA X (e :: es) t)
    (hbase : attributeBase o name X.env (eval o X.env) = eval o X.env := by rfl)
    (hfew : ((backTo cpos (starEach (e :: es) X.env)).all (fun x => !x.1) && (backToKw cpos (keywordEach [] X.env)).all (fun x => x.1.isSome)
      && decide ((e :: es).length + ([] : List Keyword).length + (if ([] : List Keyword).isEmpty then 0 else 1) < 30)) = true := by rfl)
    (hline : (apos.endLine == cpos.line) = true := by rfl) (hs : starEach (e :: es) X.env = (false, eval e X.env) :: starEach es X.env := by rfl) (hplain : (backTo cpos (starEach es X.env)).any (·.1) = false := by rfl) (hK : X.K = K := by rfl) :
    PE X (.Call (.Attribute o name apos) (e :: es) [] cpos) (tBM K T r to t) := hK ▸ pe_bm pa slot hty hm ho ha hbase hfew hline hs hplain
end Z

namespace Z
open PySem PySem.Spec PyProof.Rows L2
/-! ### lists that are unpacked; insert -/
theorem kpg_lst {X : Cx} {pos : Pos} {es : List Expr} {k : Nat} {t : TGs} {n : Nat} (K : PySem.W.Frag) (hc : X.calm = true) (h : PGs X es t)
    (hn : (assignEach es X.env).length = n := by rfl) (hst : (assignEach es X.env).findIdx? (·.1) = none := by rfl) (hK : X.K = K := by rfl) : PG X (.Tuple es k pos) (gLst K n t) := hK ▸ pg_lst hc h hn hst
def rIns : V → List V → Hp → VK → Prop := fun x vs H Q => ∃ (l : Addr) (xs : List V) (i : Int) (y : V), x = .ref l ∧ vs = [.int i, y] ∧ H l = some (.lst xs) ∧ xs.length < sizeLine ∧ 0 ≤ i ∧ i < 2 ^ 63 ∧
    Q .non (upd H l (.lst (xs.take i.toNat ++ [y] ++ xs.drop i.toNat)))
theorem mtk_insert {X : Cx} : MtR X "list.insert" rIns := mt_insert
section
variable {K : PySem.W.Frag} {E : L2.St → XK} {S0 S T : Wd} {te ta tb tc tl ti : TE} {tt uu : TT} {t u : TS} {Γ : Ctx} {k k' : D → Prop} {kx : Addr → D → Prop} {P : Po} {kl : List D → Prop} {ko : O → Prop} {al : TA} {C : Addr} {kc : Ctx → Prop} {vs : List Nat}
theorem gc_lst {n : Nat} {gs : TGs} {ds : List D} (hn : ds.length = n) (h : GCs K gs ds Γ kc) : GC K (gLst K n gs) (.lst ds) Γ kc := fun S0 S σ v Q e r q => by
  unfold Rp at r
  obtain ⟨a, xs, rfl, f, r⟩ := r
  exact ⟨a, xs, rfl, SqL.of (e.ok.sub _ _ f), by rw [r.length]; exact hn, h S0 S σ xs Q e r q⟩
theorem gw_lst {n : Nat} {gs : TGs} {ds : List D} (hn : ds.length = n) (h : GWs K vs gs ds Γ kc) : GW K vs (gLst K n gs) (.lst ds) Γ kc := fun S0 S σ v Q e r q => by
  unfold Rp at r
  obtain ⟨a, xs, rfl, f, r⟩ := r
  exact ⟨a, xs, rfl, SqL.of (e.ok.sub _ _ f), by rw [r.length]; exact hn, h S0 S σ xs Q e r q⟩
/-- found.insert(i, e) -/
theorem sc_insert {i : Nat} {ds : List D} (h : Γ[i]? = some (.own ds)) (hl : ds.length < 1000000) (he : EC K E ti Γ (fun y => ∃ z : Int, y = .int z ∧ (0 ≤ z ∧ z < 2 ^ 62) ∧ EC K E te Γ (fun d => P.nx (Γ.set i (.own (ds.take z.toNat ++ [d] ++ ds.drop z.toNat)))) (P.kx Γ)) (P.kx Γ)) : SC K E (tDrop (tBM K "list" rIns (tVar i) (tCons ti (tCons te tNil)))) Γ P := fun S0 S σ D g e G => by
  obtain ⟨l, xs, h1, h2, h3, h4, h0, r⟩ := e.own i ds h
  refine ⟨_, h1, .inl ⟨rfl, xs, SqL.of h2⟩, ?_⟩
  refine he S0 S σ _ e (fun T w y g2 r2 ⟨z, ey, hz, h5⟩ => ?_) (G.kx S σ Γ g (Le.refl S) e)
  subst ey
  refine h5 S0 T σ _ (e.gr g2) (fun U v d g3 r3 kd => ?_) (G.kx T σ Γ (g.trans g2) g2.le (e.gr g2))
  have g4 := g2.trans g3
  have rm := r.mono g4.le
  obtain ⟨e3, l3, g5⟩ := (e.gr g4).change h h1 (RpL.append (RpL.append (RpL.take z.toNat rm) (RpL.cons r3 RpL.nil)) (RpL.drop z.toNat rm))
  refine ⟨l, xs, z, v, rfl, ?_, g4.hp _ _ h2 h4, by rw [r.length]; exact bigL hl, hz.1, by omega, G.nx _ σ _ (g5 (g.trans g4)) (g4.le.trans l3) e3 kd⟩
  rw [r2.int]
end
end Z

namespace Z
open PySem PySem.Spec PyProof.Rows L2
/-! ### comprehensions with two fors -/
section
variable {K : PySem.W.Frag} {S0 S1 S T : Wd}
mutual
theorem Ow.baseA : ∀ {o : O} {v : V} {A : List Addr}, (∀ a ∈ A, S0.H a = none → S1.H a = none) → Ow K S0 S o v A → Ow K S1 S o v A
  | .fz d, v, A, b, h => by unfold Ow at h ⊢; exact h
  | .lst os, v, A, b, h => by
    unfold Ow at h ⊢
    obtain ⟨l, xs, B, rfl, e, hp, w, r⟩ := h
    exact ⟨l, xs, B, rfl, e, hp, ⟨w.f, w.m, b _ List.mem_cons_self w.n⟩, OwL.baseA (fun a ha => b a (List.mem_cons_of_mem _ ha)) r⟩
  | .tup os, v, A, b, h => by
    unfold Ow at h ⊢
    obtain ⟨a, xs, e, f, r⟩ := h
    exact ⟨a, xs, e, f, OwL.baseA b r⟩
  | .ins l C ns os, v, A, b, h => by
    unfold Ow at h ⊢
    obtain ⟨dx, xs, B, rfl, e, hp, w, n, r⟩ := h
    exact ⟨dx, xs, B, rfl, e, hp, ⟨w.f, w.m, b _ List.mem_cons_self w.n⟩, n, OwL.baseA (fun a ha => b a (List.mem_cons_of_mem _ ha)) r⟩
  | .dic l ks os, v, A, b, h => by
    unfold Ow at h ⊢
    obtain ⟨xs, B, rfl, e, hp, w, n, r⟩ := h
    exact ⟨xs, B, rfl, e, hp, ⟨w.f, w.m, b _ List.mem_cons_self w.n⟩, n, OwL.baseA (fun a ha => b a (List.mem_cons_of_mem _ ha)) r⟩
  | .ext f, v, A, b, h => by
    unfold Ow at h ⊢
    obtain ⟨l, o, rfl, e, hp, w, r⟩ := h
    exact ⟨l, o, rfl, e, hp, ⟨w.f, w.m, b _ List.mem_cons_self w.n⟩, r⟩
theorem OwL.baseA : ∀ {os : List O} {vs : List V} {A : List Addr}, (∀ a ∈ A, S0.H a = none → S1.H a = none) → OwL K S0 S os vs A → OwL K S1 S os vs A
  | [], vs, A, b, h => by unfold OwL at h ⊢; exact h
  | o :: os, vs, A, b, h => by
    unfold OwL at h ⊢
    obtain ⟨y, ys, B, C, e, rfl, r, t⟩ := h
    exact ⟨y, ys, B, C, e, rfl, Ow.baseA (fun a ha => b a (List.mem_append_left _ ha)) r, OwL.baseA (fun a ha => b a (List.mem_append_right _ ha)) t⟩
end
theorem SlO.baseA {s : Sl} {x : Option (Option V)} {A : List Addr} (b : ∀ a ∈ A, S0.H a = none → S1.H a = none) (h : SlO K S0 S s x A) : SlO K S1 S s x A := by
  cases s with
  | un => exact h
  | dat d => exact h
  | own ds =>
    obtain ⟨l, xs, rfl, q, hp, w, r⟩ := h
    exact ⟨l, xs, rfl, q, hp, ⟨w.f, w.m, b l (List.mem_singleton.mpr rfl) w.n⟩, r⟩
  | tre o =>
    obtain ⟨v, q, r⟩ := h
    exact ⟨v, q, r.baseA b⟩
  | fct d f => exact h
/-- an older world in which p stands, too -/
def Wd.wi (S0 : Wd) (p : Addr) : Wd := ⟨S0.F, upd S0.H p (.lst []), S0.M⟩
theorem EnvOk.rebase {σ : L2.St} {Γ : Ctx} {p : Addr} (e : EnvOk K S0 S σ Γ) (hp : S.H p = none) : EnvOk K (S0.wi p) S σ Γ := by
  obtain ⟨A, h1, h2, h3, h4⟩ := e.fp
  refine ⟨e.ok, e.len, A, fun i s hs => (h1 i s hs).baseA fun a ha hn => ?_, h2, h3, h4⟩
  obtain ⟨_, u, hu⟩ := (h1 i s hs).there a ha
  show upd S0.H p _ a = none
  rw [upd_ne (ne_of_none hu hp)]
  exact hn
theorem EnvOk.chgD {σ : L2.St} {Γ : Ctx} {p : Addr} {o : HO} (e : EnvOk K (S0.wi p) S σ Γ) (hf : S.F p = none) (hm : S.M p = none) (nc : NoCode o := by intro _ _ z; unfold LamX.CodeO at z; cases z) : EnvOk K (S0.wi p) ⟨S.F, upd S.H p o, S.M⟩ σ Γ := by
  obtain ⟨A, h1, h2, h3, h4⟩ := e.fp
  refine ⟨e.ok.change hf hm nc, e.len, A, fun i s hs => (h1 i s hs).keeps (Keeps.chg fun z => ?_), h2, h3, h4⟩
  have := ((h1 i s hs).there p z).1.n
  have e2 : (S0.wi p).H p = some (.lst []) := upd_same
  rw [e2] at this
  cases this
end
section
variable {K : PySem.W.Frag} {E : L2.St → XK} {te : TE} {tt tt1 : TT} {Γ : Ctx} {kx : Addr → D → Prop} {kl : List D → Prop} {vs vs1 : List Nat}
theorem en_lc2I {wi wi1 : TI} {g g1 : TG} (h : EI K E wi Γ (fun ds => ∃ Iv : Nat → List D → Prop, Iv 0 [] ∧ (∀ (i : Nat) d acc, ds[i]? = some d → Iv i acc → GW K vs g d (wipeC Γ vs) fun Δ =>
      ET K ES0 tt Δ (fun b => if b = true then EI K ES0 wi1 Δ (fun ds1 => ∃ Iv1 : Nat → List D → Prop, Iv1 0 acc ∧ (∀ (j : Nat) d1 acc1, ds1[j]? = some d1 → Iv1 j acc1 → acc1.length < 1000000 ∧ GW K vs1 g1 d1 (wipeC Δ vs1) fun Δ1 =>
        ET K ES0 tt1 Δ1 (fun b => if b = true then EC K ES0 te Δ1 (fun y => Iv1 (j + 1) (acc1 ++ [y])) F0 else Iv1 (j + 1) acc1) F0) ∧ ∀ acc1, Iv1 ds1.length acc1 → Iv (i + 1) acc1) F0 else Iv (i + 1) acc) F0) ∧ ∀ acc, Iv ds.length acc → kl acc) kx) :
    EN K E (tLc2 wi g tt wi1 g1 tt1 te vs vs1) Γ kl kx := fun S0 S σ Q e q x =>
  h S0 S σ _ e (fun T J ds g2 w ⟨Iv, h0, hs, hd⟩ Dp hn => by
    have eT := (env_wipe (e.gr g2) vs).rebase hn
    have fresh := Gr.layO g2.ok hn (.lst [])
    refine ⟨fun i m H => ∃ (U : Wd) (acc : List D) (xs : List V), U.H = H ∧ Gr T U ∧ U.H Dp = some (.lst xs) ∧ U.F Dp = none ∧ U.M Dp = none ∧ RpL K U acc xs ∧ i ≤ ds.length ∧ m = ds.length - i ∧ Iv i acc,
      ⟨_, ⟨T.F, upd T.H Dp (.lst []), T.M⟩, [], [], rfl, fresh, upd_same, g2.ok.fnone hn, g2.ok.mnone hn, RpL.nil, Nat.zero_le _, rfl, h0⟩, ?_⟩
    rintro i m H ⟨U, acc, xs, rfl, gU, hD, hF, hM, rA, hi, rfl, hI⟩
    by_cases hlt : i < ds.length
    · refine .inr ⟨w.go U i gU.ok gU.le hlt, fun H => ∃ (U : Wd) (acc : List D) (xs : List V), U.H = H ∧ Gr T U ∧ U.H Dp = some (.lst xs) ∧ U.F Dp = none ∧ U.M Dp = none ∧ RpL K U acc xs ∧ Iv (i + 1) acc, ?_, fun y H' hy => ?_⟩
      · rintro H2 ⟨U2, acc2, xs2, e2, a, b, c, d, f, n⟩
        exact ⟨ds.length - (i + 1), by omega, U2, acc2, xs2, e2, a, b, c, d, f, hlt, rfl, n⟩
      · obtain ⟨U1, d, rfl, g1, ed, rd⟩ := w.yld U i y H' gU.ok gU.le hlt hy
        have gT1 := gU.trans g1
        refine hs i d acc ed hI (S0.wi Dp) U1 (wipe σ vs) y _ (eT.gr gT1) rd fun τ Δ hw e2 h2 => ⟨hw.trans wipe_idem, ?_⟩
        refine h2 (S0.wi Dp) U1 τ _ e2 (fun U3 b g3 kd => ?_) xp0
        have g13 := g1.trans g3
        have gT3 := gU.trans g13
        cases b with
        | true =>
          have h5 : EI K ES0 wi1 Δ _ F0 := kd
          show wi1 τ U3.H _
          refine h5 (S0.wi Dp) U3 τ _ (e2.gr g3) (fun T4 J1 ds1 g4 w1 ⟨Iv1, i0, is, ie⟩ => ?_) xp0
          have gT4 := gT3.trans g4
          have g14 := g13.trans g4
          refine ⟨fun j k H => ∃ (Y : Wd) (acc1 : List D) (xs1 : List V), Y.H = H ∧ Gr T Y ∧ Le T4 Y ∧ EnvOk K (S0.wi Dp) Y τ Δ ∧ Y.H Dp = some (.lst xs1) ∧ Y.F Dp = none ∧ Y.M Dp = none ∧ RpL K Y acc1 xs1 ∧ j ≤ ds1.length ∧ k = ds1.length - j ∧ Iv1 j acc1,
            ⟨_, T4, acc, xs, rfl, gT4, Le.refl _, (e2.gr g3).gr g4, g14.hp _ _ hD hM, g14.fr _ _ hD hF, by rw [g14.mu _ _ hD, hM], rA.mono g14.le, Nat.zero_le _, rfl, i0⟩, ?_⟩
          rintro j k H ⟨Y0, acc1, xs1, rfl, gV, lV, eV, hD1, hF1, hM1, rA1, hj, rfl, hI1⟩
          by_cases hlt1 : j < ds1.length
          · refine .inr ⟨w1.go Y0 j gV.ok lV hlt1, fun H => ∃ (Y : Wd) (acc1 : List D) (xs1 : List V), Y.H = H ∧ Gr T Y ∧ Le T4 Y ∧ EnvOk K (S0.wi Dp) Y τ Δ ∧ Y.H Dp = some (.lst xs1) ∧ Y.F Dp = none ∧ Y.M Dp = none ∧ RpL K Y acc1 xs1 ∧ Iv1 (j + 1) acc1, ?_, fun y1 H1 hy1 => ?_⟩
            · rintro H2 ⟨V2, acc2, xs2, z1, z2, z3, z4, z5, z6, z7, z8, z9⟩
              exact ⟨ds1.length - (j + 1), by omega, V2, acc2, xs2, z1, z2, z3, z4, z5, z6, z7, z8, hlt1, rfl, z9⟩
            · obtain ⟨V1, d1, rfl, f1, ed1, rd1⟩ := w1.yld Y0 j y1 H1 gV.ok lV hlt1 hy1
              obtain ⟨hlen, hgw⟩ := is j d1 acc1 ed1 hI1
              have eV1 := eV.gr f1
              refine hgw (S0.wi Dp) V1 (wipe τ vs1) y1 _ (env_wipe eV1 vs1) rd1 fun τ1 Δ1 hw1 e3 h3 => ⟨hw1.trans wipe_idem, ?_⟩
              refine h3 (S0.wi Dp) V1 τ1 _ e3 (fun V3 b1 f3 kd1 => ?_) xp0
              have f13 := f1.trans f3
              cases b1 with
              | true =>
                have h6 : EC K ES0 te Δ1 (fun y => Iv1 (j + 1) (acc1 ++ [y])) F0 := kd1
                show te τ1 V3.H _
                refine h6 (S0.wi Dp) V3 τ1 _ (e3.gr f3) (fun V4 y4 d4 f4 r4 k4 => ?_) xp0
                have f14 := f13.trans f4
                have gV4 := gV.trans f14
                have r5 : RpL K V4 (acc1 ++ [d4]) (xs1 ++ [y4]) := RpL.append (rA1.mono f14.le) (RpL.cons r4 RpL.nil)
                have hF4 := f14.fr _ _ hD1 hF1
                have hM4 : V4.M Dp = none := by rw [f14.mu _ _ hD1, hM1]
                exact ⟨xs1, f14.hp _ _ hD1 hM1, by rw [rA1.length]; exact bigL hlen, ⟨V4.F, upd V4.H Dp (.lst (xs1 ++ [y4])), V4.M⟩, acc1 ++ [d4], xs1 ++ [y4], rfl, gV4.change hn hF4 hM4 _, (lV.trans f14.le).trans (Le.chg V4 Dp _), (eV.gr f14).chgD hF4 hM4, upd_same, hF4, hM4, r5.mono (Le.chg V4 Dp _), k4⟩
              | false =>
                have h6 : Iv1 (j + 1) acc1 := kd1
                exact ⟨V3, acc1, xs1, rfl, gV.trans f13, lV.trans f13.le, eV.gr f13, f13.hp _ _ hD1 hM1, f13.fr _ _ hD1 hF1, by rw [f13.mu _ _ hD1, hM1], rA1.mono f13.le, h6⟩
          · have ej : j = ds1.length := by omega
            subst ej
            exact .inl ⟨w1.stop Y0 _ gV.ok lV (Nat.le_refl _), Y0, acc1, xs1, rfl, gV, hD1, hF1, hM1, rA1, ie acc1 hI1⟩
        | false =>
          have h5 : Iv (i + 1) acc := kd
          exact ⟨U3, acc, xs, rfl, gT3, g13.hp _ _ hD hM, g13.fr _ _ hD hF, by rw [g13.mu _ _ hD, hM], rA.mono g13.le, h5⟩
    · have ei : i = ds.length := by omega
      subst ei
      exact .inl ⟨w.stop U _ gU.ok gU.le (Nat.le_refl _), q U Dp xs acc (g2.trans gU) (g2.new hn) hD hF hM rA (hd acc hI)⟩) x
/-- [e for x in xs for y in ys], functions of the two -/
theorem en_lc2 {wi wi1 : TI} {g g1 : TG} (h : EI K E wi Γ (fun ds => ∃ (α : Type) (xs : List α) (enc : α → D) (ff : α → List D), ds = xs.map enc ∧ (∀ pre, pre <+: xs → (pre.flatMap ff).length < 900000) ∧ (∀ x ∈ xs, (ff x).length < 100000 ∧ GW K vs g (enc x) (wipeC Γ vs) fun Δ =>
      EI K ES0 wi1 Δ (fun ds1 => ds1.length = (ff x).length ∧ ∀ (j : Nat) d1, ds1[j]? = some d1 → GW K vs1 g1 d1 (wipeC Δ vs1) fun Δ1 => EC K ES0 te Δ1 (fun y => (ff x)[j]? = some y) F0) F0) ∧ kl (xs.flatMap ff)) kx) : EN K E (tLc2 wi g tYes wi1 g1 tYes te vs vs1) Γ kl kx := by
  refine en_lc2I (EI.mono h ?_)
  rintro ds ⟨α, xs, enc, ff, rfl, hsm, hs, hk⟩
  refine ⟨fun i acc => acc = (xs.take i).flatMap ff, rfl, ?_, fun acc ea => ?_⟩
  · rintro i d acc ed rfl
    rw [List.getElem?_map] at ed
    cases hx : xs[i]? with
    | none => rw [hx] at ed; cases ed
    | some x =>
      rw [hx] at ed
      cases ed
      obtain ⟨hl, hg⟩ := hs x (List.mem_of_getElem? hx)
      intro S0 S σ v Q e r q
      refine hg S0 S σ v Q e r fun τ Δ hw e2 h2 => q τ Δ hw e2 (et_yes ?_)
      show EI K ES0 wi1 Δ _ F0
      refine EI.mono h2 ?_
      rintro ds1 ⟨hl1, h3⟩
      refine ⟨fun j acc1 => acc1 = (xs.take i).flatMap ff ++ (ff x).take j, by simp, ?_, fun acc1 ea => ?_⟩
      · rintro j d1 acc1 ed1 rfl
        refine ⟨?_, ?_⟩
        · rw [List.length_append, List.length_take]
          have := hsm _ (List.take_prefix i xs)
          omega
        · intro S0 S σ v Q e r q
          refine h3 j d1 ed1 S0 S σ v Q e r fun τ1 Δ1 hw1 e3 h4 => q τ1 Δ1 hw1 e3 (et_yes ?_)
          show EC K ES0 te Δ1 _ F0
          refine h4.mono ?_
          intro y hy
          show _ = _ ++ (ff x).take (j + 1)
          rw [take_succ hy, List.append_assoc]
      · show acc1 = (xs.take (i + 1)).flatMap ff
        rw [ea, hl1, List.take_length, take_succ hx, List.flatMap_append]
        simp
  · rw [ea, List.length_map, List.take_length]
    exact hk
end
/-! ### len(set(xs)) -/
def ddup (ns : List Int) : List Int := PyProof.Rows.firstMet (fun i => ns.getD i 0) ns.length
theorem ddup_go {ns : List Int} : ∀ i, i ≤ ns.length → (PyProof.Rows.firstMet (fun i => ns.getD i 0) i).length ≤ i ∧ ((PyProof.Rows.firstMet (fun i => ns.getD i 0) i).length = i → PyProof.Rows.firstMet (fun i => ns.getD i 0) i = ns.take i ∧ (ns.take i).Nodup)
  | 0, _ => ⟨Nat.le_refl 0, fun _ => ⟨rfl, List.nodup_nil⟩⟩
  | i + 1, hi => by
    have hlt : i < ns.length := hi
    have e1 : ns.getD i 0 = ns[i] := by
      rw [List.getD_eq_getElem?_getD, List.getElem?_eq_getElem hlt] <;> rfl
    have e2 : ns.take (i + 1) = ns.take i ++ [ns[i]] := by
      rw [List.take_add_one, List.getElem?_eq_getElem hlt] <;> rfl
    obtain ⟨h1, h2⟩ := ddup_go (ns := ns) i (Nat.le_of_lt hlt)
    rw [PyProof.Rows.firstMet_succ]
    show (if (PyProof.Rows.firstMet (fun i => ns.getD i 0) i).any (· == ns.getD i 0) then PyProof.Rows.firstMet (fun i => ns.getD i 0) i else PyProof.Rows.firstMet (fun i => ns.getD i 0) i ++ [ns.getD i 0]).length ≤ i + 1 ∧ ((if (PyProof.Rows.firstMet (fun i => ns.getD i 0) i).any (· == ns.getD i 0) then PyProof.Rows.firstMet (fun i => ns.getD i 0) i else PyProof.Rows.firstMet (fun i => ns.getD i 0) i ++ [ns.getD i 0]).length = i + 1 → (if (PyProof.Rows.firstMet (fun i => ns.getD i 0) i).any (· == ns.getD i 0) then PyProof.Rows.firstMet (fun i => ns.getD i 0) i else PyProof.Rows.firstMet (fun i => ns.getD i 0) i ++ [ns.getD i 0]) = ns.take (i + 1) ∧ (ns.take (i + 1)).Nodup)
    cases hb : (PyProof.Rows.firstMet (fun i => ns.getD i 0) i).any (· == ns.getD i 0) with
    | true =>
      rw [if_pos rfl]
      exact ⟨by omega, fun e => by omega⟩
    | false =>
      rw [if_neg Bool.false_ne_true, List.length_append, List.length_singleton]
      refine ⟨by omega, fun e => ?_⟩
      obtain ⟨h3, h4⟩ := h2 (by omega)
      rw [h3, e1, e2]
      refine ⟨rfl, ?_⟩
      rw [List.nodup_append]
      refine ⟨h4, by simp, fun a ha b hb2 z => ?_⟩
      cases List.mem_singleton.mp hb2
      have : (PyProof.Rows.firstMet (fun i => ns.getD i 0) i).any (· == ns.getD i 0) = true := by
        rw [List.any_eq_true]
        refine ⟨ns[i], ?_, by rw [e1]; exact beq_self_eq_true _⟩
        rw [h3, ← z]
        exact ha
      rw [this] at hb
      cases hb
theorem ddup_iff (ns : List Int) : (ddup ns).length = ns.length ↔ ns.Nodup := by
  constructor
  · intro h
    have := ((ddup_go (ns := ns) ns.length (Nat.le_refl _)).2 h).2
    rwa [List.take_length] at this
  · intro h
    unfold ddup
    rw [RZ.firstMet_nodup h ns.length (Nat.le_refl _), List.take_length]
theorem ddup_le (ns : List Int) : (ddup ns).length ≤ ns.length := (ddup_go (ns := ns) ns.length (Nat.le_refl _)).1
def tLenSetZ (K : PySem.W.Frag) (ta : TE) : TE := fun σ H Q => ta σ H fun x H1 => ∃ (l : Addr) (ns : List Int), x = .ref l ∧ SqL K H1 l (ns.map V.int) ∧ ns.length ≤ 4000 ∧ Q (.int ((ddup ns).length : Nat)) H1
theorem pe_lenSetZ (K : PySem.W.Frag) {X : Cx} {a : Expr} {ta : TE} {p p2 q pos : Pos} (hg : Gl X "len") (hm : X.mg "len" = none) (hg2 : Gl X "set") (hm2 : X.mg "set" = none) (ha : PE X a ta) (hc : X.calm = true := by rfl)
    (na : starEach [a] X.env = (false, eval a X.env) :: starEach [] X.env := by rfl) (hK : X.K = K := by rfl) : PE X (.Call (.Name "len" p) [.Call (.Name "set" p2) [a] [] q] [] pos) (tLenSetZ K ta) := by
  subst hK
  refine ⟨fun pins s σ H Q I h => ?_⟩
  refine Call_ (ld_blt I hg hm boot_len ?_)
  refine PyProof.Rows.callWith_builtin1 (PyProof.Rows.args_cons ?_ rfl) rfl rfl
  refine Call_ (ld_blt I hg2 hm2 boot_set ?_)
  refine PyProof.Rows.callWith_type1 (PyProof.Rows.args_cons (thn (ha.run pins s σ H _ I h) fun v s1 ⟨x, H1, I1, r1, q1⟩ => PyProof.Rows.args_nil ?_) na) na rfl
  obtain ⟨l, ns, rfl, hq, hl, q1⟩ := q1
  cases r1
  obtain ⟨its, r, pl, hz⟩ := I1.list hq
  have hlen : its.toArray.size = ns.length := by rw [List.size_toArray, ← r.length, List.length_map]
  refine call_set_list (I1.ok.hd hc) pl.isList (by simpa using RZ.intsAre_vals r) (by rw [hlen]; unfold scanBound; omega) fun h' tk hS hk => ?_
  refine PyProof.Rows.args_nil ?_
  rw [hlen] at hS
  obtain ⟨o, es, ep, t, ho, hex, hd, _, _, _, hf, hn⟩ := hS
  have I2 : Inv X pins σ H1 { s1 with heap := h', toks := tk } := I1.kept fun b o e => hk b o (Heap.lt_size e) e
  have hle := ddup_le ns
  exact call_len_set ho hex hd hf (by rw [hn]; unfold ddup at hle; omega) ⟨.int (ddup ns).length, H1, I2.tok _, ⟨_, by rw [hn]; rfl⟩, q1⟩
theorem ec_lenSet {K : PySem.W.Frag} {E : L2.St → XK} {ta : TE} {Γ : Ctx} {k : D → Prop} {kx : Addr → D → Prop} (h : EL K E ta Γ (fun ds => ∃ ns : List Int, ds = ns.map D.int ∧ ns.length ≤ 4000 ∧ k (.int ((ddup ns).length : Nat))) kx) : EC K E (tLenSetZ K ta) Γ k kx := fun S0 S σ Q e q x =>
  h S0 S σ _ e (fun T p xs ds g hp hm r ⟨ns, ed, hl, kd⟩ => by
    subst ed
    exact ⟨p, ns, rfl, by rw [← r.ints]; exact SqL.of hp, hl, q T _ _ g (by unfold Rp; rfl) kd⟩) x
end Z

namespace Z
open PySem PySem.Spec PyProof.Rows L2
/-! ### a shown text that is shown again -/
def Asc (x : Str) : Prop := ∀ c ∈ x.cps.toList, c < 16 ^ 8
theorem asc_app {x y : Str} (hx : Asc x) (hy : Asc y) : Asc (x ++ y) := by
  have e : (x ++ y).cps.toList = x.cps.toList ++ y.cps.toList := by
    show (x.cps ++ y.cps).toList = _
    rw [Array.toList_append]
  unfold Asc
  rw [e]
  intro c hc
  rcases List.mem_append.mp hc with h | h
  · exact hx c h
  · exact hy c h
theorem asc_of (s : String) : Asc (Str.ofString s) := by
  unfold Asc
  rw [Str.ofString_eq_toList]
  intro c hc
  have hc : c ∈ s.toList.map Char.toNat := by simpa using hc
  obtain ⟨a, _, rfl⟩ := List.mem_map.mp hc
  have h := a.val.toNat_lt
  show a.val.toNat < 16 ^ 8
  exact h
theorem asc_from : ∀ (ts : List Str) (k : Nat) (acc : Str), Asc acc → (∀ t ∈ ts, Asc t) → Asc (textFrom k acc ts)
  | [], k, acc, h, _ => h
  | t :: ts, k, acc, h, ht => asc_from ts (k + 1) _ (asc_app (asc_app h (asc_of _)) (ht t List.mem_cons_self)) fun u hu => ht u (List.mem_cons_of_mem _ hu)
theorem asc_empty : Asc Str.empty := fun c hc => by cases hc
theorem asc_join {sep : Str} (hs : Asc sep) : ∀ ts : List Str, (∀ t ∈ ts, Asc t) → Asc (Str.join sep ts)
  | [], _ => asc_empty
  | [x], h => h x List.mem_cons_self
  | x :: y :: r, h => asc_app (asc_app (h x List.mem_cons_self) hs) (asc_join hs (y :: r) fun t ht => h t (List.mem_cons_of_mem _ ht))
def D.asc (d : D) : Prop := Asc d.py.shown
theorem ascs {ds : List D} (h : ∀ d ∈ ds, d.asc) : ∀ t ∈ PyData.shownAll (D.pys ds), Asc t := by
  induction ds with
  | nil =>
    intro t ht
    unfold D.pys PyData.shownAll at ht
    cases ht
  | cons d ds ih =>
    intro t ht
    unfold D.pys PyData.shownAll at ht
    rcases List.mem_cons.mp ht with rfl | ht
    · exact h d List.mem_cons_self
    · exact ih (fun e he => h e (List.mem_cons_of_mem _ he)) t ht
theorem asc_int (i : Int) : (D.int i).asc := by
  unfold D.asc D.py
  simp only [PyData.shown]
  exact asc_of _
theorem asc_non : D.non.asc := by
  unfold D.asc D.py
  simp only [PyData.shown]
  exact asc_of _
theorem asc_bl (b : Bool) : (D.bl b).asc := by
  unfold D.asc D.py
  simp only [PyData.shown]
  cases b <;> exact asc_of _
theorem asc_str {x : Str} (h : Asc (reprText x)) : (D.str x).asc := by
  unfold D.asc D.py
  simp only [PyData.shown]
  exact h
theorem asc_lst {ds : List D} (h : ∀ d ∈ ds, d.asc) : (D.lst ds).asc := by
  unfold D.asc D.py
  simp only [PyData.shown]
  exact asc_app (asc_from _ 0 _ (asc_of _) (ascs h)) (asc_of _)
theorem asc_tup {ds : List D} (h : ∀ d ∈ ds, d.asc) : (D.tup ds).asc := by
  unfold D.asc D.py
  simp only [PyData.shown]
  exact asc_app (asc_app (asc_of _) (asc_join (asc_of _) _ (ascs h))) (asc_of _)
theorem asc_iL (ns : List Int) : (D.lst (ns.map .int)).asc := asc_lst fun d hd => by
  obtain ⟨i, _, rfl⟩ := List.mem_map.mp hd
  exact asc_int i
/-- the text of data, shown -/
theorem shw_shown {n e N : Nat} {d : D} (h : ShwN n e d) (ha : d.asc) (hN : 10 * n + 2 ≤ N) : ShwN N 0 (.str d.py.shown) := by
  refine shw_str (Nat.le_trans (StrLaws.reprText_len _ ha) ?_)
  have := h.len
  omega
/-- a new list out of a new tree -/
theorem en_ofW {K : PySem.W.Frag} {E : L2.St → XK} {te : TE} {Γ : Ctx} {kx : Addr → D → Prop} {kl : List D → Prop} (h : EW K E te Γ (fun o => ∃ ds : List D, o = .lst (ds.map .fz) ∧ kl ds) kx) : EN K E te Γ kl kx := fun S0 S σ Q e q x =>
  h S0 S σ _ e (fun T v o A g r n ⟨ds, eo, kd⟩ => by
    subst eo
    unfold Ow at r
    obtain ⟨l, xs, B, rfl, rfl, hp, w, rl⟩ := r
    obtain ⟨rfl, rd⟩ := rl.to_fz
    exact q T l xs ds g w.n hp w.f w.m rd kd) x
theorem kpe_fld (K : PySem.W.Frag) {X : Cx} {e : Expr} {f : Str} {ta : TE} {pos : Pos} (he : PE X e ta) (hb : attributeBase e f X.env (eval e X.env) = eval e X.env := by rfl) (hK : X.K = K := by rfl) : PE X (.Attribute e f pos) (tFld K ta f) := hK ▸ pe_fld he hb
end Z

namespace Z
open PySem PySem.Spec PyProof.Rows L2
/-! ### == and != by an own __eq__ -/
section
variable {X : Cx} {C : Addr} {k : Nat} {ps : List Str} {sp : Sp}
/-- a def is called below the running body -/
theorem own_call {f : Addr} {fd : FuncData} (F : FnOk X.prog X.w X.K X.mg X.base (L2.CX X.prog X.w) k f fd ps sp) (hb : Binds X.K fd ps []) {A : Around} {pins : List (Addr × Obj)} {s : Shared} {σ : L2.St} {H : Hp} {vs : List V} {us : List Value} {Q : VK} (sb : Sub X k A) (I : Inv X pins σ H s) (r : Vals vs us) (h : sp vs H Q E0) :
    wpAny (model X.prog X.w) A (call (.ref f) us) (fun v s' => ∃ x H', Inv X pins σ H' s' ∧ RelV x v ∧ Q x H') X.xe s := by
  have e0 : Env0 X.prog X.w X.K X.mg X.base A X.stack s H := by
    have e := I.env0
    exact ⟨by rw [sb.fr]; exact e.frames, e.mod, e.bs, e.bsz, e.funs, e.frf, e.hok, e.bare⟩
  have hl := F.len _ _ _ _ h
  refine wpAny_call (codeAny_mono (F.run A X.stack s H ⟨us, []⟩ us vs _ E0 sb.room e0 (by
    have := hb s us I.kIn (by rw [List.append_nil, ← r.length]; exact hl)
    simpa using this) r h) fun r s' hq => ?_)
  cases r with
  | error e => exact pass00 pins σ H s e s' I hq
  | ok fl =>
    cases fl with
    | ret w =>
      obtain ⟨z, H', I', rz, q⟩ := I.after hq
      exact ⟨z, H', I', rz, q⟩
    | next => exact False.elim hq
    | brk => exact False.elim hq
    | cont => exact False.elim hq
/-- x == y, x and y instances of C: its __eq__ gives a truth value -/
def rOwn (C : Addr) (sp : Sp) (g : Bool → Bool) : R2 := fun x y H Q => (∃ a dx fs, x = .ref a ∧ H a = some (.ins C dx fs)) ∧ (∃ a dx fs, y = .ref a ∧ H a = some (.ins C dx fs)) ∧ sp [x, y] H (fun v H' => ∃ b, v = .bl b ∧ Q (.bl (g b)) H') E0
theorem op_eqO (M : MCal X.prog X.w X.K X.mg X.base C "__eq__" k ps sp) (hr : Room k X.A) : OpR X (compareOp .Eq) (rOwn C sp id) := by
  intro pins s σ H x y v u Q I rx ry hq
  obtain ⟨⟨a, dx, fs, rfl, ha⟩, ⟨b, dy, gs, rfl, hb'⟩, hs⟩ := hq
  obtain ⟨f, fd, F, hm, c, hb⟩ := M.ex
  cases rx
  cases ry
  show wpAny (model X.prog X.w) X.A (richCompare .Eq (.ref a) (.ref b)) (EP X pins σ Q) X.xe s
  obtain ⟨mA, J, _⟩ := ins_get I.hok ha
  obtain ⟨mB, J', _⟩ := ins_get I.hok hb'
  obtain ⟨od, J, _⟩ := J.look
  obtain ⟨od', J', _⟩ := J'.look
  obtain ⟨m, hF⟩ := I.fr
  have r2 : Vals [V.ref a, V.ref b] [Value.ref a, Value.ref b] := .cons rfl (.cons rfl .nil)
  refine PySem.W.cmp_K (op := .Eq) (tb := .ref C) hr.units0 hF I.ok.mod.kin J J'.type (by simp [PySem.W.notFirst]) hm.at_ hm.fn (wpAny_mono (own_call F hb ⟨hr, rfl⟩ I r2 hs) (fun v s' z => ?_) fun _ _ x => x)
  obtain ⟨w, H', I', rw', b, rfl, q⟩ := z
  cases rw'
  exact ⟨.bl b, H', I', rfl, q⟩
/-- what the written part says of C's __ne__ -/
structure NeO (K : PySem.W.Frag) (C : Addr) : Prop where
  at_ : PySem.W.findIn K (.ref C) "__ne__" = some (some (.builtin "object.__ne__"))
  sub : PySem.W.subIn K (.ref C) (.type "object") = some true
theorem op_neO (M : MCal X.prog X.w X.K X.mg X.base C "__eq__" k ps sp) (N : NeO X.K C) (hr : Room (k + 1) X.A) : OpR X (compareOp .NotEq) (rOwn C sp not) := by
  intro pins s σ H x y v u Q I rx ry hq
  obtain ⟨⟨a, dx, fs, rfl, ha⟩, ⟨b, dy, gs, rfl, hb'⟩, hs⟩ := hq
  obtain ⟨f, fd, F, hm, c, hb⟩ := M.ex
  cases rx
  cases ry
  show wpAny (model X.prog X.w) X.A (richCompare .NotEq (.ref a) (.ref b)) (EP X pins σ Q) X.xe s
  obtain ⟨mA, J, _⟩ := ins_get I.hok ha
  obtain ⟨mB, J', _⟩ := ins_get I.hok hb'
  obtain ⟨od, J, _⟩ := J.look
  obtain ⟨od', J', _⟩ := J'.look
  obtain ⟨m, hF⟩ := I.fr
  have KX := I.kIn
  have r2 : Vals [V.ref a, V.ref b] [Value.ref a, Value.ref b] := .cons rfl (.cons rfl .nil)
  have sb : Sub X (k + 1) X.A := ⟨hr, rfl⟩
  have entry : wpAny (model X.prog X.w) X.A.in1 (Builtin.«object.__ne__» ⟨[.ref a, .ref b], []⟩) (fun r s' => ∃ b, r = .done (.ret (.bool (!b))) ∧ EP X pins σ Q (.bool (!b)) s') X.xe s := by
    unfold Builtin.«object.__ne__»
    repeat (first | with_reducible refine wpAny_cRoomFor sb.in1.room.units0 ?_ | with_reducible refine PySem.W.ifBound_K KX J hm.at_ hm.fn (wpAny_mono (own_call F hb sb.in1 I r2 hs) (fun v s' z => ?_) fun _ _ x => x) | wp_step)
    obtain ⟨w, H', I', rw', b, rfl, q⟩ := z
    cases rw'
    dsimp only
    repeat wp_step
    exact ⟨b, rfl, .bl (!b), H', I', rfl, q⟩
  have check : ∀ {Q' : Unit → Shared → Prop}, Q' () s → wpAny (model X.prog X.w) X.A.in1 (checkBuiltinCall "object.__ne__" ⟨[.ref a, .ref b], []⟩) Q' X.xe s := by
    intro Q' hq
    have ha := PySem.F.cmpArgs_ne (.ref a) (.ref b)
    simp only [checkBuiltinCall, PySem.F.cmpKind_ne, PySem.F.cmpSplit_ne]
    refine wpAny_bind ?_
    unfold isInstance
    refine wpAny_bind (J.type.here ?_)
    refine (PySem.W.looks_subIn KX N.sub).here ?_
    cases hsig : Manifest.signature? "object.__ne__" with
    | none => exact wpAny_pure hq
    | some sig =>
      simp only [argsOk, hsig] at ha
      have h2 : Bind.checkArgs "object.__ne__" sig ⟨[.ref a, .ref b], []⟩ = pure () := ha
      show wpAny _ _ (Bind.checkArgs "object.__ne__" sig ⟨[.ref a, .ref b], []⟩) Q' _ _
      rw [h2]
      exact wpAny_pure hq
  have call1 : wpAny (model X.prog X.w) X.A (call (.builtin "object.__ne__") [.ref a, .ref b]) (fun v s' => ∃ b, v = .bool b ∧ EP X pins σ Q v s') X.xe s := by
    refine wpAny_call (codeAny_call_builtin PySem.F.cmp_object.ne.plain PySem.F.cmpEntry_ne (check ?_))
    refine wpAny_mono entry (fun r s' z => ?_) fun _ _ x => x
    obtain ⟨b, rfl, e⟩ := z
    exact ⟨_, rfl, e⟩
  have one : wpAny (model X.prog X.w) X.A (tryCompare (.ref a) "__ne__" (.ref b)) (fun r s' => ∃ v, r = some v ∧ EP X pins σ Q v s') X.xe s := by
    unfold tryCompare
    refine wpAny_bind ?_
    simp only [callSpecialIfBound?, bindSpecialIfBound?]
    refine wpAny_holding (wpAny_bind (wpAny_bind (wpAny_bind (J.type.here ((PySem.W.looks_findIn KX N.at_).here ?_)))))
    simp only [PySem.F.cmp_object.ne.bind]
    refine wpAny_bind (wpAny_askSetting (wpAny_ite ?_))
    have fin : ∀ {Q' : Option Value → Shared → Prop}, (∀ (b : Bool) s', EP X pins σ Q (.bool b) s' → Q' (some (.bool b)) s') → wpAny (model X.prog X.w) X.A (call (.builtin "object.__ne__") ([.ref a] ++ [.ref b]) >>= fun v => pure (some v)) Q' X.xe s := fun hq => wpAny_bind (wpAny_mono call1 (fun v s' z => by
      obtain ⟨b, rfl, e⟩ := z
      exact wpAny_pure (hq b s' e)) fun _ _ x => x)
    split
    · exact wpAny_bind (wpAny_pure (wpAny_pure (fin fun b s' e => wpAny_pure ⟨_, rfl, e⟩)))
    · exact wpAny_tryCatch (wpAny_bind (wpAny_pure (wpAny_pure (fin fun b s' e => wpAny_pure ⟨_, rfl, e⟩))))
  unfold richCompare
  simp only [oneThing_ref]
  refine wpAny_holding (wpAny_bind (wpAny_cRoomFor sb.room.units0 ?_))
  refine wpAny_bind (J.type.here (wpAny_bind (J'.type.here ?_)))
  split
  · rename_i q
    simp at q
  · refine wpAny_bind (wpAny_pure ?_)
    simp only [Bool.false_eq_true, if_false]
    refine wpAny_bind (wpAny_mono one (fun r s' z => ?_) fun _ _ e => e)
    obtain ⟨v, rfl, hq⟩ := z
    exact wpAny_pure hq
/-- len(x) by an own __len__ -/
def rLenO (C : Addr) (sp : Sp) : List V → Hp → VK → Prop := fun xs H Q => ∃ a dx fs, xs = [.ref a] ∧ H a = some (.ins C dx fs) ∧ sp [.ref a] H (fun v H' => ∃ n : Int, v = .int n ∧ (0 ≤ n ∧ n < 2 ^ 62) ∧ Q (.int n) H') E0
theorem cz_lenO (M : MCal X.prog X.w X.K X.mg X.base C "__len__" k ps sp) (hr : Room (k + 1) X.A) : CallR X (.builtin "len") (rLenO C sp) := by
  intro pins s σ H xs us Q I rx hq
  obtain ⟨a, dx, fs, rfl, ha, hs⟩ := hq
  obtain ⟨f, fd, F, hm, c, hb⟩ := M.ex
  obtain ⟨u, us, rfl, r1, r2⟩ : ∃ u us', us = u :: us' ∧ RelV (.ref a) u ∧ Vals [] us' := by
    cases rx with
    | cons r t => exact ⟨_, _, rfl, r, t⟩
  cases r1
  cases r2
  obtain ⟨mA, J, _⟩ := ins_get I.hok ha
  obtain ⟨od, J, _⟩ := J.look
  obtain ⟨m, hF⟩ := I.fr
  have sb : Sub X (k + 1) X.A := ⟨hr, rfl⟩
  have r1 : Vals [V.ref a] [Value.ref a] := .cons rfl .nil
  refine PySem.W.len_K hF I.ok.mod.kin J hm.at_ hm.fn (wpAny_mono (own_call F hb sb.in1 I r1 hs) (fun v s' z => ?_) fun _ _ x => x)
  obtain ⟨w, H', I', rw', n, rfl, hn, q⟩ := z
  obtain ⟨t, rfl⟩ := rw'
  exact ⟨⟨hn.1, by omega⟩, .int n, H', I'.tok _, ⟨_, rfl⟩, q⟩
end
/-! ### the rules -/
theorem rp_ins {K : PySem.W.Frag} {S : Wd} {C : Addr} {ns : List Str} {ds : List D} {v : V} (ok : S.Ok) (r : Rp K S (.ins C ns ds) v) : ∃ a dx fs, v = .ref a ∧ S.H a = some (.ins C dx fs) := by
  unfold Rp at r
  obtain ⟨a, dx, fs, e, f, _⟩ := r
  exact ⟨a, dx, fs, e, ok.sub _ _ f⟩
theorem rd_own {K : PySem.W.Frag} {C : Addr} {wp : WP} {g : Bool → Bool} {k : D → Prop} {ns ms : List Str} {ds es : List D} (h : wp [.ins C ns ds, .ins C ms es] (fun d => ∃ b, d = .bl b ∧ k (.bl (g b))) F0) : RD K (rOwn C (spD K wp) g) (.ins C ns ds) (.ins C ms es) k := fun S Q v w ok r1 r2 q => by
  refine ⟨rp_ins ok r1, rp_ins ok r2, S, _, _, F0, ok, rfl, RpL.cons r1 (RpL.cons r2 RpL.nil), h, fun T u d gT rT ⟨b, ed, kd⟩ => ?_, xp0⟩
  subst ed
  unfold Rp at rT
  subst rT
  exact ⟨b, rfl, q T _ _ gT (by unfold Rp; rfl) kd⟩
theorem ec_lenO {K : PySem.W.Frag} {E : L2.St → XK} {C : Addr} {wp : WP} {ta : TE} {Γ : Ctx} {k : D → Prop} {kx : Addr → D → Prop} (h : EC K E ta Γ (fun d => ∃ ns ds, d = .ins C ns ds ∧ wp [d] (fun d => ∃ n : Int, d = .int n ∧ (0 ≤ n ∧ n < 2 ^ 62) ∧ k (.int n)) F0) kx) : EC K E (tCB (rLenO C (spD K wp)) (tCons ta tNil)) Γ k kx := by
  refine ec_cb (ea_cons (h.mono ?_))
  rintro d ⟨ns, ds, rfl, hw⟩
  refine ea_nil ?_
  intro S Q vs ok r q
  obtain ⟨y, ys, rfl, r1, r2⟩ := r.cons_inv
  cases r2.nil_inv
  obtain ⟨a, dx, fs, rfl, ha⟩ := rp_ins ok r1
  refine ⟨a, dx, fs, rfl, ha, S, _, _, F0, ok, rfl, RpL.cons r1 RpL.nil, hw, fun T u d gT rT ⟨n, ed, hn, kd⟩ => ?_, xp0⟩
  subst ed
  cases rT.int
  exact ⟨n, rfl, hn, q T _ _ gT rpi kd⟩
/-- what the written part says of C's __class__ -/
structure ClsI (K : PySem.W.Frag) (C : Addr) : Prop where
  cl : Cls K C
  ha : PySem.W.findIn K (.ref C) "__class__" = some (some (.builtin "object.__class__"))
  hn : PySem.W.specialIn K (.builtin "object.__class__") "__get__" = some (some (.builtin "getset_descriptor.__get__"))
  ht : PySem.W.takesIn K (.builtin "object.__class__") = some true
  hm : PySem.W.mroIn K C (.type "object") = some true
/-- isinstance(x, C), x an instance of C -/
theorem ec_isiO {K : PySem.W.Frag} {E : L2.St → XK} {C : Addr} {ta : TE} {Γ : Ctx} {k : D → Prop} {kx : Addr → D → Prop} (c : ClsI K C) (h : EC K E ta Γ (fun d => ∃ ns ds, d = .ins C ns ds ∧ k (.bl true)) kx) : EC K E (tCB (rIsi K) (tCons ta (tCons (tC (.ref C)) tNil))) Γ k kx := by
  refine ec_cb (ea_cons (h.mono ?_))
  rintro d ⟨ns, ds, rfl, hk⟩
  refine ea_cons (ec_val (ea_nil ?_))
  intro S Q vs ok r q
  obtain ⟨y, ys, rfl, r1, r2⟩ := r.cons_inv
  obtain ⟨z, zs, rfl, r3, r4⟩ := r2.cons_inv
  cases r4.nil_inv
  unfold Rp at r3
  subst r3
  obtain ⟨a, dx, fs, rfl, ha⟩ := rp_ins ok r1
  exact ⟨.ref a, .ref C, .ref C, .ref C, true, rfl, .own C, .base (.ins ha c.cl c.ha c.hn c.ht c.hm), if_pos (beq_self_eq_true _), q S _ _ (Gr.refl ok) rpb hk⟩
end Z

namespace Z
open PySem PySem.Spec PyProof.Rows L2
/-! ### xs.index(v), whole numbers -/
theorem mtk_index (K : PySem.W.Frag) {X : Cx} (hK : X.K = K := by rfl) : MtR X "list.index" (rIndex K) := hK ▸ mt_index
theorem ec_index {K : PySem.W.Frag} {E : L2.St → XK} {ta tb : TE} {Γ : Ctx} {k : D → Prop} {kx : Addr → D → Prop} (h : EC K E ta Γ (fun l => ∃ ns : List Int, l = .lst (ns.map .int) ∧ EC K E tb Γ (fun d => ∃ (v : Int) (j : Nat), d = .int v ∧ ns[j]? = some v ∧ (∀ m, m < j → ns[m]? ≠ some v) ∧ k (.int j)) kx) kx) : EC K E (tBM K "list" (rIndex K) ta (tCons tb tNil)) Γ k kx := fun S0 S σ Q e q x => by
  refine h S0 S σ _ e (fun T w d g r hd => ?_) x
  obtain ⟨ns, rfl, h2⟩ := hd
  unfold Rp at r
  obtain ⟨a, xs, rfl, f, r⟩ := r
  refine ⟨.inl ⟨rfl, xs, SqL.of (g.ok.sub _ _ f)⟩, ?_⟩
  refine h2 S0 T σ _ (e.gr g) (fun U w d g2 r2 hd => ?_) (x.gr g)
  obtain ⟨v, j, rfl, hj, hn, hk⟩ := hd
  cases r2.int
  have rm := r.mono g2.le
  have key : ∀ (m : Nat) (z : V), xs[m]? = some z → ∃ i : Int, z = .int i ∧ ns[m]? = some i := by
    intro m z hz
    obtain ⟨d, hd, rd⟩ := rm.getV hz
    rw [List.getElem?_map] at hd
    cases hi : ns[m]? with
    | none =>
      rw [hi] at hd
      cases hd
    | some i =>
      rw [hi] at hd
      cases hd
      exact ⟨i, rd.int, rfl⟩
  obtain ⟨z, hz, rz⟩ := rm.get (i := j) (d := .int v) (by rw [List.getElem?_map, hj]; rfl)
  cases rz.int
  refine ⟨a, xs, .int v, j, .int v, rfl, rfl, SqL.of (g2.ok.sub _ _ (g2.le.fz _ _ f)), rfl, ?_, hz, by unfold eqV; simp, fun m z' hm hz' => ?_, ?_⟩
  · rw [List.all_eq_true]
    intro z hz
    obtain ⟨m, hm⟩ := List.getElem?_of_mem hz
    obtain ⟨i, rfl, _⟩ := key m z hm
    rfl
  · obtain ⟨i, rfl, hi⟩ := key m z' hz'
    unfold eqV
    have := hn m hm
    rw [hi] at this
    simpa using fun e => this (by rw [e])
  · exact q U _ _ (g.trans g2) rpi hk
end Z

/-! dicts whose keys are tuples of whole numbers: comprehensions, values(), and sorted rows -/
namespace L2
open PySem PySem.Spec PyProof.Rows PySem.W
/-- D[b] = v by dictSet, the key a tuple -/
theorem dT_set {X : Cx} {pn : List (Addr × Obj)} {σ : St} {H : Hp} {s : Shared} {E : Value → Shared → Prop} {d b : Addr} {kw : List (List Key × V)} {k : List Key} {v : V} {r : Value} {Q : Unit → Shared → Prop} (J : Inv X pn σ H s) (hu : X.A.units + 1 < cLine)
    (e : H d = some (.dT kw)) (lt : kw.length < sizeLine) (eb : H b = some (.tup (k.map kV))) (rv : RelV v r) (go : ∀ s', Inv X pn σ (upd H d (.dT (putK kw k v))) s' → Q () s') : wpAny (model X.prog X.w) X.A (dictSet d (.ref b) r) Q E s := by
  obtain ⟨z, ns, xs, rel, dd⟩ := dt_of J.hok e
  have m1 : xs.length ≤ sizeLine := Paired.length rel ▸ z
  have m2 : (putK kw k v).length ≤ sizeLine := Nat.le_trans (length_putK kw k v) lt
  refine wpAny_dictSet_heap (hsz := m1) (Nat.lt_of_succ_lt hu) (key_of J.hok eb) dd fun h1 d1 same => go _ ?_
  obtain ⟨o, es, ep, g1, g2, g3, g4, _, g5⟩ := d1
  refine d_write J (by rw [e]; trivial) same ⟨o, g1⟩ ⟨m2, ns, _, (rel.put k eb rv).keeps fun c ys ec => ?_, o, es, ep, g1, g2, g3, g4, g5⟩
  exact (upd_ne (ne_of ec e fun y => by cases y)).trans ec

/-- the parts of a dict comprehension's block, wherever the block stands -/
structure BlkD (X : Cx) (sc : Scope) (kx vx tg : Expr) (fs : List Expr) (g : TG) (tt : TT) (tk tv : TE) : Prop where
  tgt : ∀ (s : Shared) (H : Hp) (C : Addr) (cl : List (Str × Addr)) (fq : List Addr), PG (X.blk s H sc (compEnvC sc cl C X.env) fq) tg g
  tst : ∀ (s : Shared) (H : Hp) (C : Addr) (cl : List (Str × Addr)) (fq : List Addr), PTs (X.blk s H sc (compEnvC sc cl C X.env) fq) fs tt
  key : ∀ (s : Shared) (H : Hp) (C : Addr) (cl : List (Str × Addr)) (fq : List Addr), PE (X.blk s H sc (compEnvC sc cl C X.env) fq) kx tk
  val : ∀ (s : Shared) (H : Hp) (C : Addr) (cl : List (Str × Addr)) (fq : List Addr), PE (X.blk s H sc (compEnvC sc cl C X.env) fq) vx tv
/-- {tuple: v for ..}: d the new dict -/
def tDcT (wi : TI) (g : TG) (tt : TT) (tk tv : TE) (vs : List Nat) : TE := fun σ H Q => wi σ H fun J G => ∀ d, G d = none → ∃ W : Nat → Nat → Hp → Prop, (∃ m, W 0 m (upd G d (.dT []))) ∧ ∀ i m G1, W i m G1 →
  (J.stop i G1 ∧ Q (.ref d) G1) ∨ (J.go i G1 ∧ ∃ Ny : Hp → Prop, (∀ G', Ny G' → ∃ m', m' < m ∧ W (i + 1) m' G') ∧ ∀ x G', J.yld i G1 x G' → g x (wipe σ vs) G' fun τ G2 => wipe τ vs = wipe σ vs ∧ tt τ G2 fun b G3 =>
    if b = true then tk τ G3 fun y G4 => tv τ G4 fun z G5 => ∃ kw k c, y = .ref c ∧ G5 c = some (.tup (k.map kV)) ∧ G5 d = some (.dT kw) ∧ kw.length < sizeLine ∧ Ny (upd G5 d (.dT (putK kw k z))) else Ny G3)
theorem dcT_core {X : Cx} {pn : List (Addr × Obj)} {s : Shared} {σ : St} {H : Hp} {Q : VK} {kx vx tg iter : Expr} {fs : List Expr} {sc : Scope} {own : List (Str × Nat)} {pos pos' : Pos} {wi : TI} {g : TG} {tt : TT} {tk tv : TE} {use : Option (Value → Sem Unit)} {Qf : Value → Shared → Prop} (hc : X.calm = true) (hN : X.N.Nodup) (hu : X.A.units + 1 < cLine) (I0 : Inv X pn σ H s) (hi : PI X tg iter wi) (bk : BlkOk X.N X.env.scope sc own)
    (B : BlkD X sc kx vx tg fs g tt tk tv) (hf : ∀ x, foldedSetIterable iter X.env x = pure x) (h : tDcT wi g tt tk tv (own.map (·.2)) σ H Q)
    (hRR : ∀ D C s' m H', Inv X pn σ H' s' → Q (.ref D) H' → s'.heap.Ns C m → FpOk X pn H' C → compPost (model X.prog X.w) X.A X.xe use Qf (.ref D) C (.ok .next) s') :
    wpAny (model X.prog X.w) X.A (comprehension (.DictComp kx vx [⟨tg, iter, fs, 0⟩] sc pos) sc X.env pos' newDict false (eval iter X.env) use) Qf X.xe s := by
  have cells : ∀ y ∈ sc.names, y.2 = .free → ∃ c, X.env.cells.lookup y.1 = some c := fun y hy e => (bk.free y hy e).elim (fun k => I0.ok.has _ (.inl k)) fun k => I0.ok.has _ (.inr k)
  refine wpAny_comprehension_free (use := use) rfl hf (closure_ok cells) bk.kind (fun y hy e => by rw [bk.uniq y hy, e]) (thn (hi.run pn s σ H _ I0 h) fun a1 u1 w1 => thn w1 fun a2 u2 w2 => ?_)
  obtain ⟨itr, fq, st, J, G, rfl, I2, T, st0, fo, q⟩ := w2
  refine wpAny_newObj_type (newEnv_comp ?_)
  have new : G u2.heap.objs.size = none := I2.hok.fresh (Nat.le_refl _)
  obtain ⟨W, ⟨m0, w0⟩, each⟩ := q _ new
  have I3 : Inv X pn σ (upd G u2.heap.objs.size (.dT [])) { u2 with heap := u2.heap.push { cls := .type "dict", data := .dict #[] } } := I2.laid (t' := u2.toks) (fun b o e => Heap.get?_push_of_some _ e) (Nat.le_refl _) (dt_empty u2.heap I2.big)
  generalize ed : u2.heap.objs.size = d at I3 w0 each new ⊢
  have small : ∀ b ∈ fq, b < d := fun b hb => by
    obtain ⟨o, e, _⟩ := T.obj _ _ st0 b hb
    rw [← ed]
    exact Heap.lt_size e
  have size3 : (u2.heap.push { cls := .type "dict", data := .dict #[] }).objs.size = d + 1 := by rw [Heap.size_push, ed]
  have fo3 : ∀ b ∈ fq, FpOk X pn (upd G d (.dT [])) b ∧ b < (u2.heap.push { cls := .type "dict", data := .dict #[] }).objs.size := fun b hb => by
    have lt := small b hb
    refine ⟨⟨?_, (fo b hb).2⟩, by rw [size3]; exact Nat.lt_succ_of_lt lt⟩
    rw [upd_ne (Nat.ne_of_lt lt)]
    exact (fo b hb).1
  generalize eu : ({ u2 with heap := u2.heap.push { cls := .type "dict", data := .dict #[] } } : Shared) = u3 at I3 ⊢
  have eh : u3.heap = u2.heap.push { cls := .type "dict", data := .dict #[] } := by rw [← eu]
  rw [← eh] at fo3
  have st3 : st 0 u3.heap := T.keep _ _ _ st0 fun b _ o e => by rw [eh]; exact Heap.get?_push_of_some _ e
  have I4 := block_start I3 bk hN fo3
  have aG := B.tgt u3 (upd G d (.dT [])) u3.heap.objs.size (cellsFrom (u3.heap.objs.size + 1) sc.names (cloFrom X.env.cells sc.names [])) fq
  have aT := B.tst u3 (upd G d (.dT [])) u3.heap.objs.size (cellsFrom (u3.heap.objs.size + 1) sc.names (cloFrom X.env.cells sc.names [])) fq
  have aK := B.key u3 (upd G d (.dT [])) u3.heap.objs.size (cellsFrom (u3.heap.objs.size + 1) sc.names (cloFrom X.env.cells sc.names [])) fq
  have aV := B.val u3 (upd G d (.dT [])) u3.heap.objs.size (cellsFrom (u3.heap.objs.size + 1) sc.names (cloFrom X.env.cells sc.names [])) fq
  show codeAny _ _ (.compStart (.DictComp kx vx [⟨tg, iter, fs, 0⟩] sc pos) 0 (.ref itr) (.ref d) (compEnvC sc (cellsFrom (u3.heap.objs.size + 1) sc.names (cloFrom X.env.cells sc.names [])) u3.heap.objs.size X.env)) _ { u3 with heap := pushCells (u3.heap.push { cls := .type "dict", data := .dict #[] }) sc.names }
  generalize ecv : compEnvC sc (cellsFrom (u3.heap.objs.size + 1) sc.names (cloFrom X.env.cells sc.names [])) u3.heap.objs.size X.env = cv at I4 aG aT aK aV ⊢
  have eloc : cv.locals = u3.heap.objs.size := by subst ecv; rfl
  generalize eG : upd G d (.dT []) = G3 at I3 I4 aG aT aK aV w0 fo3
  generalize eu4 : ({ u3 with heap := pushCells (u3.heap.push { cls := .type "dict", data := .dict #[] }) sc.names } : Shared) = u4 at I4 ⊢
  have st4 : st 0 u4.heap := T.keep _ _ _ st3 fun b _ o e => by rw [← eu4]; exact pushCells_keeps _ _ _ _ (Heap.get?_push_of_some _ e)
  have fits : ∀ {τ : St} {G' : Hp} {s' : Shared}, Inv (X.blk u3 G3 sc cv fq) [] τ G' s' → (∀ b ∈ fq, G' b = none) → ∀ b ∈ fq, FpOk (X.blk u3 G3 sc cv fq) [] G' b := fun {τ G' s'} I' no b hb =>
    ⟨no b hb, (I'.ok.exf b hb).1, I'.ok.exfs b hb, .inl hb, fun x c e => (I'.ok.exf b hb).2 x c e, fun p hp => absurd (show p ∈ ([] : List (Addr × Obj)) ++ [] from hp) (by simp)⟩
  have body : ∀ (R : Result → Shared → Prop), (∀ G' s' m, Inv X pn σ G' s' → Q (.ref d) G' → s'.heap.Ns u3.heap.objs.size m → G' u3.heap.objs.size = none → R (.ok .next) s') → codeAny (model X.prog X.w) X.A (.compLoop (.DictComp kx vx [⟨tg, iter, fs, 0⟩] sc pos) 0 (.ref itr) (.ref d) cv) R u4 := by
    intro R out
    refine compLoop_anyD (fun n s' => ∃ i G', Inv (X.blk u3 G3 sc cv fq) [] (wipe σ (own.map (·.2))) G' s' ∧ st i s'.heap ∧ (∀ b ∈ fq, G' b = none) ∧ W i n G') ?_ m0 ⟨0, G3, I4, st4, fun b hb => (fo3 b hb).1.1, w0⟩
    rintro n v0 ⟨i, G5, I5, st5, no5, w5⟩
    rcases each i n G5 w5 with ⟨hstop, hq⟩ | ⟨hgo, Ny, dn, go⟩
    · refine thnF (T.done (X.blk u3 G3 sc cv fq) rfl rfl rfl hc i [] v0 _ G5 (fun _ _ => False) I5 (fits I5 no5) st5 hstop) fun r v1 ⟨er, I6⟩ => ?_
      subst er
      have free : G5 u3.heap.objs.size = none := by
        have z : G5 cv.locals = none := I6.free
        rwa [eloc] at z
      obtain ⟨m, ns, _⟩ := I6.loc
      have ns : v1.heap.Ns cv.locals m := ns
      rw [eloc] at ns
      exact out G5 v1 m (I3.call' (ch := fq) I6.os I6.base I6.hok I6.bare fun b hb => ⟨(fo3 b hb).1.2.2.2.1, (fo3 b hb).1.2.1, (fo3 b hb).1.2.2.2.2.1, (fo3 b hb).1.2.2.2.2.2⟩) hq ns free
    · refine thnF (T.item (X.blk u3 G3 sc cv fq) rfl rfl rfl hc i [] v0 _ G5 (fun _ _ => False) I5 (fits I5 no5) st5 hgo) fun r v1 ⟨u, er, w6⟩ => ?_
      subst er
      refine thnF w6 fun _ v2 ⟨x, G7, I7, r7, y7, st7, no7⟩ => ?_
      refine thnF (aG.run _ v2 _ G7 x u _ (I7.pinned (fits I7 no7) (T.obj _ _ st7)) r7 (go x G7 y7)) fun _ v3 ⟨τ, G8, I8, ew, q8⟩ => ?_
      refine thnF (aT.run _ v3 τ G8 _ I8 q8) fun b v4 ⟨G9, I9, q9⟩ => ?_
      have next : ∀ {s' : Shared} {G' : Hp}, Inv (X.blk u3 G3 sc cv fq) ([] ++ pinsAt fq v2.heap) τ G' s' → Ny G' → ∃ m, m < n ∧ ∃ i G', Inv (X.blk u3 G3 sc cv fq) [] (wipe σ (own.map (·.2))) G' s' ∧ st i s'.heap ∧ (∀ b ∈ fq, G' b = none) ∧ W i m G' := fun {s' G'} I' ny => by
        obtain ⟨m', lt, w'⟩ := dn G' ny
        have held : ∀ b ∈ fq, ∀ o, v2.heap.get? b = some o → s'.heap.get? b = some o ∧ G' b = none := fun b hb o e => by
          have z := I'.pin (b, o) (List.mem_append_right _ (List.mem_append_right _ (mem_pinsAt hb e)))
          exact ⟨z.1, z.2.1⟩
        have el : (wipe σ (own.map (·.2))).length = τ.length := by rw [← ew, wipe_length]
        refine ⟨m', lt, i + 1, G', (I'.unpinned (pins := [])).weak el (fun j v e => ?_), T.keep _ _ _ st7 fun b hb o e => (held b hb o e).1, fun b hb => ?_, w'⟩
        · rw [← ew] at e
          exact (wipe_some e).1
        · obtain ⟨o, e, _⟩ := T.obj _ _ st7 b hb
          exact (held b hb o e).2
      cases b with
      | false =>
        simp only [Bool.false_eq_true, if_false] at q9 ⊢
        exact next I9 q9
      | true =>
        simp only [if_true] at q9 ⊢
        refine thnF (aK.run _ v4 τ G9 _ I9 q9) fun z1 v5 ⟨y1, G10, I10, r10, q10⟩ => ?_
        refine thnF (aV.run _ v5 τ G10 _ I10 q10) fun z2 v6 ⟨y2, G11, I11, r11, kw, k, c, ec, hc11, hd11, hz11, ny⟩ => ?_
        subst ec
        cases (show z1 = Value.ref c from r10)
        exact dT_set (X := X.blk u3 G3 sc cv fq) I11 hu hd11 hz11 hc11 r11 fun v7 I12 => next I12 ny
  refine codeAny_compStart_dict (body _ ?_) (T.self X.A 0 _ _ _ st4 (body _ ?_)) <;>
  · intro G' s' m I' q' ns free
    exact hRR _ _ s' m G' I' q' ns (I3.fpOk (Nat.le_refl _) free)
theorem pe_dcT {X : Cx} {kx vx tg iter : Expr} {fs : List Expr} {sc : Scope} {own : List (Str × Nat)} {pos : Pos} {wi : TI} {g : TG} {tt : TT} {tk tv : TE} (hc : X.calm = true) (hN : X.N.Nodup) (hu : X.A.units + 1 < cLine) (hi : PI X tg iter wi) (bk : BlkOk X.N X.env.scope sc own)
    (B : BlkD X sc kx vx tg fs g tt tk tv) (hf : ∀ x, foldedSetIterable iter X.env x = pure x := by intro _; rfl) : PE X (.DictComp kx vx [⟨tg, iter, fs, 0⟩] sc pos) (tDcT wi g tt tk tv (own.map (·.2))) := by
  refine ⟨fun pn s σ H Q I0 h => ?_⟩
  rw [arm_eval_DictComp]
  refine dcT_core hc hN hu I0 hi bk B hf h fun D C s' m H' I' q hn f => ⟨m, hn, fun h'' sb => ?_⟩
  obtain ⟨f0, f1, f2, f3, f4, f5⟩ := f
  exact ⟨.ref D, H', I'.turned (t' := s'.toks) (fun b o hb e => (sb.2 b hb).trans e) f0 f1 f3 f4 f5, rfl, q⟩
theorem ps_setDcT {X : Cx} {i : Nat} {y : Str} {py : Pos} {kx vx tg iter : Expr} {fs : List Expr} {sc : Scope} {own : List (Str × Nat)} {pos spos : Pos} {wi : TI} {g : TG} {tt : TT} {tk tv : TE} (hc : X.calm = true) (hN : X.N.Nodup) (hu : X.A.units + 1 < cLine) (hy : X.N[i]? = some y) (hyl : X.env.scope.names.lookup y = some .local)
    (hsw : swapsWith (.DictComp kx vx [⟨tg, iter, fs, 0⟩] sc pos) (some (.Name y py)) spos.line X.env = pure true) (hi : PI X tg iter wi) (bk : BlkOk X.N X.env.scope sc own) (B : BlkD X sc kx vx tg fs g tt tk tv) (hf : ∀ x, foldedSetIterable iter X.env x = pure x := by intro _; rfl) :
    PS X (.Assign [.Name y py] (.DictComp kx vx [⟨tg, iter, fs, 0⟩] sc pos) spos) (tAsg (tDcT wi g tt tk tv (own.map (·.2))) (gName i)) := by
  refine ⟨fun pn s σ H D I h => ?_⟩
  rw [exec_Assign_Name_used _ _ _ _ hsw]
  refine wpAny_bind (wpAny_standAt (wpAny_bind ?_))
  show wpAny _ X.A (do let _ ← comprehension (.DictComp kx vx [⟨tg, iter, fs, 0⟩] sc pos) sc X.env (firstIterPos [⟨tg, iter, fs, 0⟩] pos) newDict false (eval iter X.env) (some (assign (.Name y py) X.env))) _ _ s
  have h : (tDcT wi g tt tk tv (own.map (·.2))) σ H (fun x H1 => gName i x σ H1 D.nx) := h
  refine wpAny_bind (thn (dcT_core (Qf := fun _ s' => SP X pn D .next s') hc hN hu I hi bk B hf h fun L C s' m H' I' q hn f => ?_) fun _ s' hq => wpAny_pure (wpAny_pure hq))
  show wpAny _ _ (assign (.Name y py) X.env (.ref L)) _ _ _
  refine wpAny_assign_Name (store_ok2 (v := V.ref L) I' hN hy (.inl hyl) rfl (fun s2 I2 ⟨a, sb, ha⟩ => ?_) (.inr hyl))
  obtain ⟨f0, f1, f2, f3, f4, f5⟩ := f
  have haC : C ≠ a := by
    rcases ha with z | z
    · rw [z]; exact f1
    · exact fun e => f4 y a z e.symm
  refine ⟨m, hn.sameBut sb haC, fun h3 sb3 => ?_⟩
  exact ⟨_, H', I2.turned (t' := s2.toks) (fun b o hb e => (sb3.2 b hb).trans e) f0 f1 f3 f4 f5, q⟩
theorem ps_setDcI {X : Cx} {i : Nat} {y : Str} {py : Pos} {kx vx tg iter : Expr} {fs : List Expr} {sc : Scope} {own : List (Str × Nat)} {pos spos : Pos} {wi : TI} {g : TG} {tt : TT} {tk tv : TE} (hc : X.calm = true) (hN : X.N.Nodup) (hy : X.N[i]? = some y) (hyl : X.env.scope.names.lookup y = some .local)
    (hsw : swapsWith (.DictComp kx vx [⟨tg, iter, fs, 0⟩] sc pos) (some (.Name y py)) spos.line X.env = pure true) (hi : PI X tg iter wi) (bk : BlkOk X.N X.env.scope sc own) (B : BlkD X sc kx vx tg fs g tt tk tv) (hf : ∀ x, foldedSetIterable iter X.env x = pure x := by intro _; rfl) :
    PS X (.Assign [.Name y py] (.DictComp kx vx [⟨tg, iter, fs, 0⟩] sc pos) spos) (tAsg (tDc wi g tt tk tv (own.map (·.2))) (gName i)) := by
  refine ⟨fun pn s σ H D I h => ?_⟩
  rw [exec_Assign_Name_used _ _ _ _ hsw]
  refine wpAny_bind (wpAny_standAt (wpAny_bind ?_))
  show wpAny _ X.A (do let _ ← comprehension (.DictComp kx vx [⟨tg, iter, fs, 0⟩] sc pos) sc X.env (firstIterPos [⟨tg, iter, fs, 0⟩] pos) newDict false (eval iter X.env) (some (assign (.Name y py) X.env))) _ _ s
  have h : (tDc wi g tt tk tv (own.map (·.2))) σ H (fun x H1 => gName i x σ H1 D.nx) := h
  refine wpAny_bind (thn (dc_core (Qf := fun _ s' => SP X pn D .next s') hc hN I hi bk B.tgt B.tst B.key B.val hf h fun L C s' m H' I' q hn f => ?_) fun _ s' hq => wpAny_pure (wpAny_pure hq))
  show wpAny _ _ (assign (.Name y py) X.env (.ref L)) _ _ _
  refine wpAny_assign_Name (store_ok2 (v := V.ref L) I' hN hy (.inl hyl) rfl (fun s2 I2 ⟨a, sb, ha⟩ => ?_) (.inr hyl))
  obtain ⟨f0, f1, f2, f3, f4, f5⟩ := f
  have haC : C ≠ a := by
    rcases ha with z | z
    · rw [z]; exact f1
    · exact fun e => f4 y a z e.symm
  refine ⟨m, hn.sameBut sb haC, fun h3 sb3 => ?_⟩
  exact ⟨_, H', I2.turned (t' := s2.toks) (fun b o hb e => (sb3.2 b hb).trans e) f0 f1 f3 f4 f5, q⟩
theorem sw_trueD {kx vx : Expr} {gs : List Comprehension} {sc : Scope} {pos py : Pos} {y : Str} {l : Nat} {env : Env} (hk : env.scope.kind = .function) (hy : env.scope.names.lookup y = some .local) (hl : (py.line == pos.line) = true)
    (ha : (sc.names.any fun (n, k) => n == y && (k == .local || k == .cell)) = false) : swapsWith (.DictComp kx vx gs sc pos) (some (.Name y py)) l env = pure true := by
  have ky : env.kindOf y = some .local := hy
  have hb : env.blockKind = .function := by unfold Env.blockKind; rw [hk]; rfl
  unfold swapsWith
  simp only [hb, ky, ha, Expr.pos, hl]
  rfl

/-! ### rows of whole numbers, sorted -/
theorem reads_ints {h : Heap} : ∀ {ns : List Int} {us : List Value}, Vals (ns.map V.int) us → ReadsAll h us (ns.map PyData.int) []
  | [], us, r => by cases r; exact .nil
  | n :: ns, us, r => by
    cases r with
    | cons a b =>
      obtain ⟨t, rfl⟩ := a
      exact .cons (as := []) (bs := []) (.int n t) (reads_ints b)
abbrev rowD (z : V × List Int) : PyData := .list (z.2.map .int)
theorem rows_alike (zs : List (V × List Int)) : AllAlike (zs.map rowD) := AllAlike.of (enc := rowD) fun a b => by
  show alike (.list _) (.list _) = true
  rw [alike]
  exact PySem.W.alike_ints a.2 b.2
theorem rows_sortable (zs : List (V × List Int)) : Sortable (zs.map rowD) := Sortable.others (enc := rowD) fun b => ⟨fun e => (by cases e), fun xs e => by cases e⟩
theorem rows_depth (z : V × List Int) : (rowD z).depth ≤ 64 := by
  show PyData.depth (.list (z.2.map .int)) ≤ 64
  rw [PyData.depth, PySem.W.depth_ints]
  omega
/-- p, q in the order of lists -/
def rowLe (p q : V × List Int) : Bool := decide (p.2 ≤ q.2)
theorem rows_le : dataLe false rowD = rowLe := dataLe_rows fun z : V × List Int => z.2
theorem each_vals {us : List Value} {zs : List (V × List Int)} (e : EachIs (fun u (z : V × List Int) => RelV z.1 u) us zs) : Vals (zs.map (·.1)) us := by
  induction e with
  | nil => exact .nil
  | cons h _ ih => exact .cons h ih
theorem vals_each : ∀ {zs : List (V × List Int)} {us : List Value}, Vals (zs.map (·.1)) us → EachIs (fun u (z : V × List Int) => RelV z.1 u) us zs
  | [], us, r => by
    cases r
    exact .nil
  | z :: zs, us, r => by
    cases r with
    | cons a b => exact .cons a (vals_each b)
section
variable {X : Cx} {pn : List (Addr × Obj)} {σ : St} {H : Hp} {s : Shared}
theorem row_reads (J : Inv X pn σ H s) {z : V × List Int} {u : Value} (h : ∃ t, z.1 = .ref t ∧ SqL X.K H t (z.2.map V.int)) (r : RelV z.1 u) : ∃ t, t < s.heap.objs.size ∧ Reads s.heap u (rowD z) [t] := by
  obtain ⟨t, e, hs⟩ := h
  rw [e] at r
  cases (show u = Value.ref t from r)
  obtain ⟨its, rv, pl, _⟩ := J.list hs
  obtain ⟨o, ho, hc, n, hd⟩ := pl.isList
  refine ⟨t, Heap.lt_size ho, .list ho hc hd ?_⟩
  have := reads_ints (h := s.heap) rv
  simpa using this
theorem each_reads (J : Inv X pn σ H s) {us : List Value} {zs : List (V × List Int)} (h : ∀ z ∈ zs, ∃ t, z.1 = .ref t ∧ SqL X.K H t (z.2.map V.int)) (e : EachIs (fun u (z : V × List Int) => RelV z.1 u) us zs) : EachIs (fun u (z : V × List Int) => ∃ t, t < s.heap.objs.size ∧ Reads s.heap u (rowD z) [t]) us zs := by
  induction e with
  | nil => exact .nil
  | cons a _ ih => exact .cons (row_reads J (h _ List.mem_cons_self) a) (ih fun y hy => h y (List.mem_cons_of_mem _ hy))
end
/-- sorted(xs), xs a list of rows of ints -/
def rSortedR (K : PySem.W.Frag) : List V → Hp → VK → Prop := fun vs H Q => ∃ (a : Addr) (zs : List (V × List Int)), vs = [V.ref a] ∧ SqL K H a (zs.map (·.1)) ∧ (∀ z ∈ zs, ∃ t, z.1 = V.ref t ∧ SqL K H t (z.2.map V.int)) ∧ ∀ p, H p = none → Q (.ref p) (upd H p (.lst ((zs.mergeSort rowLe).map (·.1))))
theorem cr_sortedR {X : Cx} (hu : X.A.units + 66 < cLine) : CallR X (.builtin "sorted") (rSortedR X.K) := by
  intro pn s σ H vs us Q J r h
  obtain ⟨a, zs, rfl, hs, hx, q⟩ := h
  obtain ⟨its, rv, hl, hz⟩ := J.list hs
  obtain ⟨u, rfl, ru⟩ := vals1 r
  obtain rfl : u = Value.ref a := ru
  have hlen : zs.length ≤ sizeLine := by
    rw [List.length_map] at hz
    exact hz
  have ev := vals_each rv
  refine sorted_data (enc := rowD) hl.isList ev ((each_reads J hx ev).mono fun u z ⟨t, _, rr⟩ => ⟨[t], rr⟩) (rows_alike zs) (rows_sortable zs) hlen (fun z _ => ?_) fun out ol oe => ?_
  · have := rows_depth z
    omega
  · rw [rows_le] at oe
    obtain ⟨n, hn⟩ := sortedAll_at s.heap its out.toArray
    refine ⟨.ref (s.heap.objs.size + 1), upd H (s.heap.objs.size + 1) (.lst ((zs.mergeSort rowLe).map (·.1))), J.laid (t' := s.toks) (fun b o e => sortedAll_old e) (Nat.le_succ _) ⟨?_, out, n, each_vals oe, hn⟩, rfl, q _ (J.hok.fresh (Nat.le_succ _))⟩
    rw [List.length_map, List.length_mergeSort]
    exact hlen
/-! ### the values of a dict whose keys are tuples -/
def rValsT : V → List V → Hp → VK → Prop := fun x xs H Q => ∃ (a : Addr) (kw : List (List Key × V)), x = .ref a ∧ xs = [] ∧ H a = some (.dT kw) ∧ ∀ p, H p = none → Q (.ref p) (upd H p (viewO "dict_values" p a))
theorem mt_valsT {X : Cx} : MtR X "dict.values" rValsT := by
  intro pn s σ H x xs v us Q J rx rxs h
  obtain ⟨a, kw, rfl, rfl, ha, q⟩ := h
  cases rx
  cases rxs
  obtain ⟨z, hd, ys, rel, o, es, ep, ho, hx, hdat, _⟩ := dt_of J.hok ha
  have raw : s.heap.DictRaw a es ep := ⟨o, ho, hx, hdat⟩
  refine call_meetsIn PySem.F.slot_dict_values raw.typeIs PySem.F.entry_dict_values (PySem.F.args_dict_values_1 _) (meets_dict_values_raw a hd) ⟨⟨es, ep, raw⟩, ?_⟩
  exact ⟨.ref s.heap.objs.size, upd H s.heap.objs.size (viewO "dict_values" s.heap.objs.size a), J.laid (t' := s.toks) (fun b u e => Heap.get?_push_of_some _ e) (Nat.le_refl _) (viewO_ok (Heap.get?_push_size _ rfl)), rfl, q _ (J.hok.fresh (Nat.le_refl _))⟩

theorem vals_T {H : Hp} {kw : List (List Key × V)} {ys : List (List Key × Addr × Value)} (r : KT H kw ys) : Vals (kw.map (·.2)) (ys.map (·.2.2)) := by
  induction r with
  | nil => exact .nil
  | cons h _ ih => exact .cons h.2.2 ih
/-- what list(view) and sorted(view) walk -/
theorem src_T {X : Cx} {pn : List (Addr × Obj)} {σ : St} {H : Hp} {s : Shared} {p a : Addr} {kw : List (List Key × V)} (J : Inv X pn σ H s) (hp : H p = some (viewO "dict_values" p a)) (ha : H a = some (.dT kw)) :
    ∃ (es : Array DictEntry) (ep : Nat) (us : List Value), Vals (kw.map (·.2)) us ∧ us.length = es.size ∧ kw.length ≤ sizeLine ∧ (∀ (acc : Array Value), ItemsOf (fun i v => ∃ hi : i < es.size, v = es[i].val) acc es.size → acc.toList = us) ∧
      KdlSrc X.prog X.w "dict_values" p a es.size (fun i v => ∃ hi : i < es.size, v = es[i].val) (fun h => h.IsValuesView p a ∧ h.DictRaw a es ep) ∧ s.heap.IsValuesView p a ∧ s.heap.DictRaw a es ep := by
  obtain ⟨z, hd, ys, rel, o, es, ep, ho, hx, hdat, he, _⟩ := dt_of J.hok ha
  obtain ⟨hv, _⟩ := (show ObjOk X.prog X.w H s.heap p (viewO "dict_values" p a) from J.hok p _ hp)
  have hv : s.heap.get? p = some (DSub.viewOb "dict_values" a) := hv
  have hsz : es.size = ys.length := by
    rw [← Array.length_toList, he, List.length_map]
  refine ⟨es, ep, ys.map (·.2.2), vals_T rel, by rw [List.length_map, hsz], z, fun acc hacc => ?_, KdlSrc.rawValues, ⟨_, hv, rfl, rfl⟩, o, ho, hx, hdat⟩
  apply List.ext_getElem?
  intro j
  by_cases hj : j < es.size
  · have hj2 : j < acc.size := by rw [hacc.1]; exact hj
    obtain ⟨_, e⟩ := hacc.2 j acc[j] (Array.getElem?_eq_getElem hj2)
    have e1 : acc.toList[j]? = some acc[j] := by rw [Array.getElem?_toList]; exact Array.getElem?_eq_getElem hj2
    rw [e1, e, List.getElem?_map]
    have e2 : es.toList[j]? = some es[j] := by rw [Array.getElem?_toList]; exact Array.getElem?_eq_getElem hj
    rw [he, List.getElem?_map] at e2
    cases hy : ys[j]? with
    | none =>
      rw [hy] at e2
      cases e2
    | some y =>
      rw [hy] at e2
      have e2 : entryOfKey _ y = es[j] := Option.some.inj e2
      rw [← e2]
      rfl
  · rw [List.getElem?_eq_none (by rw [Array.length_toList, hacc.1]; omega), List.getElem?_eq_none (by rw [List.length_map]; omega)]
def rListV : List V → Hp → VK → Prop := fun vs H Q => ∃ (p a : Addr) (kw : List (List Key × V)), vs = [V.ref p] ∧ H p = some (viewO "dict_values" p a) ∧ H a = some (.dT kw) ∧ ∀ l, H l = none → Q (.ref l) (upd H l (.lst (kw.map (·.2))))
theorem cr_listV {X : Cx} (hc : X.calm = true) : CallR X (.type "list") rListV := by
  intro pn s σ H vs us Q J r h
  obtain ⟨p, a, kw, rfl, hp, ha, q⟩ := h
  obtain ⟨u, rfl, ru⟩ := vals1 r
  obtain rfl : u = Value.ref p := ru
  obtain ⟨es, ep, us, rv, hl, hz, hacc, src, ok⟩ := src_T J hp ha
  have hl2 := rv.length
  rw [List.length_map] at hl2
  refine kdl_call src (J.ok.hd hc) ok (by omega) fun h' tk acc c keep hn ha' => ?_
  refine ⟨.ref s.heap.objs.size, upd H s.heap.objs.size (.lst (kw.map (·.2))), J.laid (t' := tk) keep (Nat.le_refl _) ⟨by rw [List.length_map]; exact hz, us, c, rv, ?_⟩, rfl, q _ (J.hok.fresh (Nat.le_refl _))⟩
  rw [hn, ← hacc acc ha']
/-- sorted(d.values()), the values rows of ints -/
def rSortedV (K : PySem.W.Frag) : List V → Hp → VK → Prop := fun vs H Q => ∃ (p a : Addr) (kw : List (List Key × V)) (zs : List (V × List Int)), vs = [V.ref p] ∧ H p = some (viewO "dict_values" p a) ∧ H a = some (.dT kw) ∧ kw.map (·.2) = zs.map (·.1) ∧
  (∀ z ∈ zs, ∃ t, z.1 = V.ref t ∧ SqL K H t (z.2.map V.int)) ∧ ∀ l, H l = none → Q (.ref l) (upd H l (.lst ((zs.mergeSort rowLe).map (·.1))))
theorem cr_sortedV {X : Cx} (hc : X.calm = true) (hu : X.A.units + 66 < cLine) : CallR X (.builtin "sorted") (rSortedV X.K) := by
  intro pn s σ H vs us Q J r h
  obtain ⟨p, a, kw, zs, rfl, hp, ha, ez, hx, q⟩ := h
  obtain ⟨u, rfl, ru⟩ := vals1 r
  obtain rfl : u = Value.ref p := ru
  obtain ⟨es, ep, us, rv, hl, hz, hacc, src, ok⟩ := src_T J hp ha
  have hl2 := rv.length
  rw [List.length_map] at hl2
  rw [ez] at rv
  have ev := vals_each rv
  have er := each_reads J hx ev
  have hlen : zs.length ≤ sizeLine := by
    have := congrArg List.length ez
    rw [List.length_map, List.length_map] at this
    omega
  refine Calls.call_function_entry kind_sorted plain_sorted entry_sorted (args_sorted1 _) ?_
  unfold Builtin.«sorted»
  refine wpAny_bind (m := checkCount "sorted" 1 1 _) (wpAny_pure ?_)
  refine wpAny_bind (kdu_collect (A := X.A.in1) src (J.ok.hd hc) ok (by omega) fun h' tk acc keep ha' => ?_)
  rw [hacc acc ha']
  refine wpAny_bind (wpAny_newList ?_ (by omega))
  have hnew : (h'.push { cls := .type "list", data := .seq us.toArray }).get? h'.objs.size = some (seqObj "list" us.toArray 0) := Heap.get?_push_size _ rfl
  have J1 := J.kept (t' := tk) keep
  have er1 : EachIs (fun u z => ∃ as, Reads (h'.push { cls := .type "list", data := .seq us.toArray }) u (rowD z) as ∧ h'.objs.size ∉ as) us zs := er.mono fun u z ⟨t, lt, rr⟩ => by
    have r1 := PyProof.Rows.Reads.keeps keep rr
    refine ⟨[t], PyProof.Rows.Reads.keeps (fun b o e => Heap.get?_push_of_some _ e) r1, fun hm => ?_⟩
    cases List.mem_singleton.mp hm
    cases r1 with
    | list ho _ _ _ => exact Nat.lt_irrefl _ (Heap.lt_size ho)
  have hu2 : ∀ z ∈ zs, X.A.in1.units + 1 + (rowD z).depth < cLine := fun z _ => by
    have := rows_depth z
    show X.A.units + 1 + 1 + _ < cLine
    omega
  refine wpAny_bind (wpAny_holding (list_sort_data (enc := rowD) (s := { s with heap := h'.push { cls := .type "list", data := .seq us.toArray }, toks := tk }) hnew ev er1 (rows_alike zs) (rows_sortable zs) hlen hu2 fun out ol oe => ?_))
  rw [rows_le] at oe
  obtain ⟨n, hn⟩ := sortedHeap_at (vs := us) (out := out.toArray) hnew
  refine wpAny_pure ⟨_, rfl, .ref h'.objs.size, upd H h'.objs.size (.lst ((zs.mergeSort rowLe).map (·.1))), J1.laid (t' := tk) (fun b o e => ?_) (Nat.le_refl _) ⟨?_, out, n, each_vals oe, hn⟩, rfl, q _ (J1.hok.fresh (Nat.le_refl _))⟩
  · have lt : b < h'.objs.size := Heap.lt_size e
    exact (sortedHeap_old (Nat.ne_of_lt lt) (by rw [Heap.size_push]; exact Nat.lt_succ_of_lt lt)).trans (Heap.get?_push_of_some _ e)
  · rw [List.length_map, List.length_mergeSort]
    exact hlen

/-- {k: v}, k a tuple -/
def tDispT (tk tv : TE) : TE := fun σ H Q => ∀ p, H p = none → tk σ (upd H p (.dT [])) fun y H1 => tv σ H1 fun z H2 => H2 p = some (.dT []) ∧ ∃ (ks : List Key) (c : Addr), y = .ref c ∧ H2 c = some (.tup (ks.map kV)) ∧ Q (.ref p) (upd H2 p (.dT [(ks, z)]))
theorem pe_dispT {X : Cx} {k v : Expr} {tk tv : TE} {pos : Pos} (hu : X.A.units + 1 < cLine) (hk : PE X k tk) (hv : PE X v tv) : PE X (.Dict [some k] [v] pos) (tDispT tk tv) := by
  refine ⟨fun pn s σ H Q J h => ?_⟩
  have new := J.hok.fresh (Nat.le_refl s.heap.objs.size)
  have J1 := J.laid (a := s.heap.objs.size) (o := .dT []) (h' := s.heap.push { cls := .type "dict", data := .dict #[] }) (t' := s.toks) (fun _ _ e => Heap.get?_push_of_some _ e) (Nat.le_refl _) (dt_empty s.heap J.big)
  rw [arm_eval_Dict, zip_pairTrees [some k] [v] X.env pos rfl rfl, dictDisplay_pairs _ (fun e => by cases e) (by show 1 < 17; decide)]
  refine wpAny_bind (wpAny_standAt (wpAny_bind ?_))
  unfold subDict
  refine wpAny_bind (wpAny_alloc ?_)
  refine wpAny_bind (wpAny_holding ?_)
  rw [if_pos (by show 1 ≤ 15; decide)]
  refine wpAny_bind (pairTrees_cons_walk (thn (hk.run pn _ σ _ _ J1 (h _ new)) fun u s1 ⟨y, H1, I1, r1, q1⟩ => thn (hv.run pn s1 σ H1 _ I1 q1) fun w2 s2 ⟨z, H2, I2, r2, q2⟩ => pairTrees_nil_walk ?_))
  obtain ⟨hd, ks, c, rfl, hc, q3⟩ := q2
  cases (show u = Value.ref c from r1)
  refine wpAny_holding ?_
  rw [List.forIn_cons]
  refine wpAny_bind (wpAny_bind (wpAny_bind (dT_set I2 hu hd (by decide) hc r2 fun s3 I3 => wpAny_pure ?_)))
  dsimp only
  rw [List.forIn_nil]
  exact wpAny_pure (wpAny_pure (wpAny_pure (wpAny_pure ⟨.ref s.heap.objs.size, _, I3, rfl, q3⟩)))
end L2

/-! own dicts: keys tuples of whole numbers, or whole numbers; values data -/
namespace Z
open PySem PySem.Spec PyProof.Rows L2
section
variable {κ lam : Type} [DecidableEq κ] [DecidableEq lam]
def getA (ps : List (κ × D)) (k : κ) : Option D := (ps.find? fun p => decide (p.1 = k)).map (·.2)
def putA (ps : List (κ × D)) (k : κ) (d : D) : List (κ × D) := if (ps.any fun p => decide (p.1 = k)) = true then ps.map (fun p => if p.1 = k then (p.1, d) else p) else ps ++ [(k, d)]
def zipA (f : κ → lam) : List (κ × D) → List V → List (lam × V)
  | p :: ps, v :: vs => (f p.1, v) :: zipA f ps vs
  | _, _ => []
theorem zipA_len {f : κ → lam} {K : PySem.W.Frag} {S : Wd} : ∀ {ps : List (κ × D)} {vs : List V}, RpL K S (ps.map (·.2)) vs → (zipA f ps vs).length = ps.length
  | [], vs, r => by rw [r.nil_inv]; rfl
  | p :: ps, vs, r => by
    obtain ⟨v, ws, rfl, _, r2⟩ := r.cons_inv
    show (zipA f ps ws).length + 1 = ps.length + 1
    rw [zipA_len r2]
theorem zipA_snd {f : κ → lam} {K : PySem.W.Frag} {S : Wd} : ∀ {ps : List (κ × D)} {vs : List V}, RpL K S (ps.map (·.2)) vs → (zipA f ps vs).map (·.2) = vs
  | [], vs, r => by rw [r.nil_inv]; rfl
  | p :: ps, vs, r => by
    obtain ⟨v, ws, rfl, _, r2⟩ := r.cons_inv
    show v :: (zipA f ps ws).map (·.2) = v :: ws
    rw [zipA_snd r2]
theorem get_zip {f : κ → lam} (hf : ∀ a b, f a = f b → a = b) {K : PySem.W.Frag} {S : Wd} (k : κ) : ∀ {ps : List (κ × D)} {vs : List V}, RpL K S (ps.map (·.2)) vs → (getA ps k = none → valV (zipA f ps vs) (f k) = none) ∧ ∀ d, getA ps k = some d → ∃ v, valV (zipA f ps vs) (f k) = some v ∧ Rp K S d v
  | [], vs, r => ⟨fun _ => by rw [r.nil_inv]; rfl, fun d e => by cases e⟩
  | p :: ps, vs, r => by
    obtain ⟨v, ws, rfl, r1, r2⟩ := r.cons_inv
    by_cases c : p.1 = k
    · have h1 : getA (p :: ps) k = some p.2 := by
        unfold getA
        rw [List.find?_cons_of_pos (by simpa using c)]
        rfl
      have h2 : valV (zipA f (p :: ps) (v :: ws)) (f k) = some v := by
        show ((((f p.1, v) :: zipA f ps ws).find? fun kv => decide (kv.1 = f k)).map (·.2)) = some v
        rw [List.find?_cons_of_pos (by simp [c])]
        rfl
      refine ⟨(fun e => by rw [h1] at e; cases e), fun d e => ⟨v, h2, ?_⟩⟩
      rw [h1] at e
      cases e
      exact r1
    · have h1 : getA (p :: ps) k = getA ps k := by
        unfold getA
        rw [List.find?_cons_of_neg (by simpa using c)]
      have h2 : valV (zipA f (p :: ps) (v :: ws)) (f k) = valV (zipA f ps ws) (f k) := by
        show ((((f p.1, v) :: zipA f ps ws).find? fun kv => decide (kv.1 = f k)).map (·.2)) = _
        rw [List.find?_cons_of_neg (by simpa using fun e => c (hf _ _ e))]
        rfl
      rw [h1, h2]
      exact get_zip hf k r2
theorem any_zip {f : κ → lam} (hf : ∀ a b, f a = f b → a = b) {K : PySem.W.Frag} {S : Wd} (k : κ) : ∀ {ps : List (κ × D)} {vs : List V}, RpL K S (ps.map (·.2)) vs → ((zipA f ps vs).any fun kv => decide (kv.1 = f k)) = ps.any fun p => decide (p.1 = k)
  | [], vs, r => by rw [r.nil_inv]; rfl
  | p :: ps, vs, r => by
    obtain ⟨v, ws, rfl, r1, r2⟩ := r.cons_inv
    show (((f p.1, v) :: zipA f ps ws).any fun kv => decide (kv.1 = f k)) = _
    rw [List.any_cons, List.any_cons, any_zip hf k r2]
    congr 1
    exact decide_eq_decide.mpr ⟨fun e => hf _ _ e, fun e => by rw [e]⟩
theorem zip_app {f : κ → lam} {K : PySem.W.Frag} {S : Wd} (q : κ × D) (w : V) : ∀ {ps : List (κ × D)} {vs : List V}, RpL K S (ps.map (·.2)) vs → zipA f ps vs ++ [(f q.1, w)] = zipA f (ps ++ [q]) (vs ++ [w])
  | [], vs, r => by rw [r.nil_inv]; rfl
  | p :: ps, vs, r => by
    obtain ⟨v, ws, rfl, r1, r2⟩ := r.cons_inv
    show (f p.1, v) :: (zipA f ps ws ++ [(f q.1, w)]) = (f p.1, v) :: zipA f (ps ++ [q]) (ws ++ [w])
    rw [zip_app q w r2]
theorem zip_rep {f : κ → lam} (hf : ∀ a b, f a = f b → a = b) {K : PySem.W.Frag} {S : Wd} (k : κ) {d : D} {w : V} (rw' : Rp K S d w) : ∀ {ps : List (κ × D)} {vs : List V}, RpL K S (ps.map (·.2)) vs → ∃ us, ((zipA f ps vs).map fun kv => if kv.1 = f k then (kv.1, w) else kv) = zipA f (ps.map fun p => if p.1 = k then (p.1, d) else p) us ∧ RpL K S ((ps.map fun p => if p.1 = k then (p.1, d) else p).map (·.2)) us
  | [], vs, r => ⟨[], by rw [r.nil_inv]; rfl, RpL.nil⟩
  | p :: ps, vs, r => by
    obtain ⟨v, ws, rfl, r1, r2⟩ := r.cons_inv
    obtain ⟨us, e, ru⟩ := zip_rep hf k rw' r2
    by_cases c : p.1 = k
    · refine ⟨w :: us, ?_, ?_⟩
      · show (if f p.1 = f k then (f p.1, w) else (f p.1, v)) :: ((zipA f ps ws).map fun kv => if kv.1 = f k then (kv.1, w) else kv) = _
        rw [e, if_pos (by rw [c]), List.map_cons, if_pos c]
        rfl
      · rw [List.map_cons, List.map_cons, if_pos c]
        exact RpL.cons rw' ru
    · refine ⟨v :: us, ?_, ?_⟩
      · show (if f p.1 = f k then (f p.1, w) else (f p.1, v)) :: ((zipA f ps ws).map fun kv => if kv.1 = f k then (kv.1, w) else kv) = _
        rw [e, if_neg (fun z => c (hf _ _ z)), List.map_cons, if_neg c]
        rfl
      · rw [List.map_cons, List.map_cons, if_neg c]
        exact RpL.cons r1 ru
theorem put_zip {f : κ → lam} (hf : ∀ a b, f a = f b → a = b) {K : PySem.W.Frag} {S : Wd} (k : κ) {d : D} {w : V} (rw' : Rp K S d w) {ps : List (κ × D)} {vs : List V} (r : RpL K S (ps.map (·.2)) vs) : ∃ us, putK (zipA f ps vs) (f k) w = zipA f (putA ps k d) us ∧ RpL K S ((putA ps k d).map (·.2)) us := by
  unfold putK putA
  rw [any_zip hf k r]
  by_cases c : (ps.any fun p => decide (p.1 = k)) = true
  · rw [if_pos c, if_pos c]
    exact zip_rep hf k rw' r
  · rw [if_neg c, if_neg c]
    refine ⟨vs ++ [w], zip_app (k, d) w r, ?_⟩
    rw [List.map_append]
    exact RpL.append r (RpL.cons rw' RpL.nil)
end
abbrev kT (k : List Int) : List Key := k.map Sum.inl
theorem kT_inj (a b : List Int) (h : kT a = kT b) : a = b := (List.map_inj_right fun x y e => Sum.inl.inj e).mp h
theorem kI_inj (a b : Int) (h : (Sum.inl a : Key) = Sum.inl b) : a = b := Sum.inl.inj h
theorem kT_vals (k : List Int) : (kT k).map kV = k.map V.int := by
  rw [List.map_map]
  rfl
def dtF (K : PySem.W.Frag) (ps : List (List Int × D)) : Wd → HO → Prop := fun S o => ∃ vs, o = .dT (zipA kT ps vs) ∧ RpL K S (ps.map (·.2)) vs
def dkF (K : PySem.W.Frag) (ps : List (Int × D)) : Wd → HO → Prop := fun S o => ∃ vs, o = .dK (zipA Sum.inl ps vs) ∧ RpL K S (ps.map (·.2)) vs
section
variable {K : PySem.W.Frag} {E : L2.St → XK} {S0 S T : Wd} {σ : L2.St} {Γ : Ctx} {te ta tb tv tk : TE} {k : D → Prop} {kx : Addr → D → Prop} {P : Po}
theorem dtF.mono {ps : List (List Int × D)} {o : HO} (h : dtF K ps S o) (l : Le S T) : dtF K ps T o := by
  obtain ⟨vs, e, r⟩ := h
  exact ⟨vs, e, r.mono l⟩
theorem dkF.mono {ps : List (Int × D)} {o : HO} (h : dkF K ps S o) (l : Le S T) : dkF K ps T o := by
  obtain ⟨vs, e, r⟩ := h
  exact ⟨vs, e, r.mono l⟩
/-- the object of a slot -/
theorem EnvOk.ext (e : EnvOk K S0 S σ Γ) {i : Nat} {f : Wd → HO → Prop} (h : Γ[i]? = some (.tre (.ext f))) : ∃ l o, σ[i]? = some (some (.ref l)) ∧ S.H l = some o ∧ S.F l = none ∧ S.M l = none ∧ S0.H l = none ∧ ∀ T : Wd, Le S T → f T o := by
  obtain ⟨v, A, h1, r, _⟩ := e.tre i _ h
  unfold Ow at r
  obtain ⟨l, o, _, rfl, h2, w, hf⟩ := r
  exact ⟨l, o, h1, h2, w.f, w.m, w.n, hf⟩
/-- .. is changed -/
theorem EnvOk.changeX {i : Nat} {f f' : Wd → HO → Prop} {l : Addr} {o : HO} (e : EnvOk K S0 S σ Γ) (h : Γ[i]? = some (.tre (.ext f))) (h1 : σ[i]? = some (some (.ref l))) (nc : NoCode o) (hf : ∀ T : Wd, Le S T → f' T o) :
    EnvOk K S0 ⟨S.F, upd S.H l o, S.M⟩ σ (Γ.set i (.tre (.ext f'))) ∧ Le S ⟨S.F, upd S.H l o, S.M⟩ ∧ (Gr S0 S → Gr S0 ⟨S.F, upd S.H l o, S.M⟩) := by
  obtain ⟨l', o', a1, a2, a3, a4, a5, a6⟩ := e.ext h
  rw [h1] at a1
  cases a1
  have ok : Wd.Ok ⟨S.F, upd S.H l o, S.M⟩ := e.ok.change a3 a4 nc
  have es : σ.set i (some (.ref l)) = σ := by
    apply List.ext_getElem?
    intro j
    by_cases hj : i = j
    · subst hj
      rw [List.getElem?_set_self (List.getElem?_eq_some_iff.mp h1).1, h1]
    · rw [List.getElem?_set_ne hj]
  have e2 := e.step i (s' := .tre (.ext f')) (x' := some (.ref l)) ok fun B hB _ => by
    obtain ⟨v, q, r⟩ := hB _ h
    rw [h1] at q
    cases q
    unfold Ow at r
    obtain ⟨l2, o2, rfl, z, _⟩ := r
    cases z
    refine ⟨fun A hA => Keeps.chg fun z => hA l z (List.mem_singleton.mpr rfl), [l], ⟨.ref l, rfl, ?_⟩, nodup1, fun a ha => .inl ha⟩
    unfold Ow
    exact ⟨l, o, rfl, rfl, upd_same, ⟨a3, a4, a5⟩, fun U hU => hf U ((Le.chg S l o).trans hU)⟩
  rw [es] at e2
  exact ⟨e2, Le.chg S l _, fun g => g.change a5 a3 a4 _ nc⟩
theorem nc_dT {kw : List (List Key × V)} : NoCode (.dT kw) := by intro _ _ z; unfold LamX.CodeO at z; cases z
theorem nc_dK {kw : List (Key × V)} : NoCode (.dK kw) := by intro _ _ z; unfold LamX.CodeO at z; cases z
/-! ### made -/
theorem ow_ext (ok : S.Ok) {p : Addr} {o : HO} {f : Wd → HO → Prop} (hn : S.H p = none) (hf : ∀ T : Wd, Le S T → f T o) : Ow K S ⟨S.F, upd S.H p o, S.M⟩ (.ext f) (.ref p) [p] := by
  unfold Ow
  exact ⟨p, o, rfl, rfl, upd_same, ⟨ok.fnone hn, ok.mnone hn, hn⟩, fun U hU => hf U ((Le.chg S p o).trans hU)⟩
theorem ew_dnewT {ko : O → Prop} (h : ko (.ext (dtF K []))) : EW K E tDNewT Γ ko kx := fun S0 S σ Q e q x p hn =>
  q _ _ _ _ (Gr.layO e.ok hn (.dT []) nc_dT) (ow_ext e.ok hn fun U _ => ⟨[], rfl, RpL.nil⟩) nodup1 h
theorem ew_dnewK {ko : O → Prop} (h : ko (.ext (dkF K []))) : EW K E tDNewK Γ ko kx := fun S0 S σ Q e q x p hn =>
  q _ _ _ _ (Gr.layO e.ok hn (.dK []) nc_dK) (ow_ext e.ok hn fun U _ => ⟨[], rfl, RpL.nil⟩) nodup1 h
/-! ### tuple(e): the key itself -/
theorem key_new {ns : List Int} {Q : VK} {p : Addr} {xs : List V} (ok : T.Ok) (hp : T.H p = some (.lst xs)) (r : RpL K T (ns.map D.int) xs) (h : ∀ (U : Wd) (c : Addr), Gr T U → U.H c = some (.tup ((kT ns).map kV)) → Q (.ref c) U.H) : zTup K [.ref p] T.H Q := by
  refine ⟨p, xs, rfl, SqL.of hp, fun l hl => ?_⟩
  refine h ⟨upd T.F l (.tup xs), upd T.H l (.tup xs), T.M⟩ l (Gr.lay ok hl (.tup xs)) ?_
  show upd T.H l (.tup xs) l = _
  rw [upd_same, kT_vals, r.ints]
/-- tuple(e) in d, tuple(e) not in d -/
theorem ec_inT {i : Nat} {ps : List (List Int × D)} (hd : Γ[i]? = some (.tre (.ext (dtF K ps)))) (h : EL K E te Γ (fun ds => ∃ ns : List Int, ds = ns.map .int ∧ k (.bl (getA ps ns).isSome)) kx) : EC K E (tDIn (tCB (zTup K) (tCons te tNil)) (tVar i)) Γ k kx := fun S0 S σ Q e q x =>
  h S0 S σ _ e (fun T p xs ds g hp hm r ⟨ns, e1, kd⟩ => by
    subst e1
    simp only [tNil]
    refine key_new g.ok hp r fun U c g2 hc => ?_
    have eU := e.gr (g.trans g2)
    obtain ⟨l, o, h1, h2, _, _, _, hf⟩ := eU.ext hd
    obtain ⟨vs, rfl, rv⟩ := hf U (Le.refl U)
    refine ⟨_, h1, l, _, rfl, DGet.t h2 hc, ?_⟩
    have hg := get_zip kT_inj ns rv
    have e2 : (valV (zipA kT ps vs) (kT ns)).isSome = (getA ps ns).isSome := by
      cases hz : getA ps ns with
      | none => rw [hg.1 hz]; rfl
      | some d =>
        obtain ⟨v, hv, _⟩ := hg.2 d hz
        rw [hv]; rfl
    rw [e2]
    exact q U _ _ (g.trans g2) rpb kd) x
theorem ec_notInT {i : Nat} {ps : List (List Int × D)} (hd : Γ[i]? = some (.tre (.ext (dtF K ps)))) (h : EL K E te Γ (fun ds => ∃ ns : List Int, ds = ns.map .int ∧ k (.bl (!(getA ps ns).isSome))) kx) : EC K E (tDNotIn (tCB (zTup K) (tCons te tNil)) (tVar i)) Γ k kx := fun S0 S σ Q e q x =>
  h S0 S σ _ e (fun T p xs ds g hp hm r ⟨ns, e1, kd⟩ => by
    subst e1
    simp only [tNil]
    refine key_new g.ok hp r fun U c g2 hc => ?_
    have eU := e.gr (g.trans g2)
    obtain ⟨l, o, h1, h2, _, _, _, hf⟩ := eU.ext hd
    obtain ⟨vs, rfl, rv⟩ := hf U (Le.refl U)
    refine ⟨_, h1, l, _, rfl, DGet.t h2 hc, ?_⟩
    have hg := get_zip kT_inj ns rv
    have e2 : (valV (zipA kT ps vs) (kT ns)).isSome = (getA ps ns).isSome := by
      cases hz : getA ps ns with
      | none => rw [hg.1 hz]; rfl
      | some d =>
        obtain ⟨v, hv, _⟩ := hg.2 d hz
        rw [hv]; rfl
    rw [e2]
    exact q U _ _ (g.trans g2) rpb kd) x
/-- d[tuple(e)] -/
theorem ec_getT {i : Nat} {ps : List (List Int × D)} (hd : Γ[i]? = some (.tre (.ext (dtF K ps)))) (h : EL K E te Γ (fun ds => ∃ (ns : List Int) (d : D), ds = ns.map .int ∧ getA ps ns = some d ∧ k d) kx) : EC K E (tDGet (tVar i) (tCB (zTup K) (tCons te tNil))) Γ k kx := fun S0 S σ Q e q x => by
  obtain ⟨l, o, h1, h2, _, hm, _, hf⟩ := e.ext hd
  refine ⟨_, h1, ?_⟩
  refine h S0 S σ _ e (fun T p xs ds g hp hmp r ⟨ns, d, e1, hg, kd⟩ => ?_) x
  subst e1
  simp only [tNil]
  refine key_new g.ok hp r fun U c g2 hc => ?_
  obtain ⟨vs, rfl, rv⟩ := hf U (g.trans g2).le
  obtain ⟨v, hv, rd⟩ := (get_zip kT_inj ns rv).2 d hg
  refine ⟨l, v, rfl, ?_, q U v d (g.trans g2) rd kd⟩
  rw [← hv]
  exact DGet.t ((g.trans g2).hp _ _ h2 hm) hc
/-- d[tuple(e)] = v -/
theorem sc_putT {i : Nat} {ps : List (List Int × D)} (hd : Γ[i]? = some (.tre (.ext (dtF K ps)))) (hl : ps.length < 1000000) (h : EC K E tv Γ (fun d => EL K E te Γ (fun ds => ∃ ns : List Int, ds = ns.map .int ∧ P.nx (Γ.set i (.tre (.ext (dtF K (putA ps ns d)))))) (P.kx Γ)) (P.kx Γ)) : SC K E (tAsg tv (gSub (tVar i) (tCB (zTup K) (tCons te tNil)) rSetD)) Γ P := fun S0 S σ D g e G => by
  obtain ⟨l, o, h1, h2, hfz, hm, hs0, hf⟩ := e.ext hd
  refine h S0 S σ _ e (fun T v d g2 r2 h5 => ?_) (G.kx S σ Γ g (Le.refl S) e)
  refine ⟨_, h1, ?_⟩
  refine h5 S0 T σ _ (e.gr g2) (fun U p xs ds g3 hp hmp r ⟨ns, e1, kd⟩ => ?_) (G.kx T σ Γ (g.trans g2) g2.le (e.gr g2))
  subst e1
  simp only [tNil]
  refine key_new g3.ok hp r fun W c g4 hc => ?_
  have gW := (g2.trans g3).trans g4
  obtain ⟨vs, rfl, rv⟩ := hf W gW.le
  obtain ⟨us, eu, ru⟩ := put_zip kT_inj ns (r2.mono (g3.trans g4).le) rv
  have h2W := gW.hp _ _ h2 hm
  obtain ⟨e3, l3, g5⟩ := (e.gr gW).changeX (f' := dtF K (putA ps ns d)) (o := .dT (zipA kT (putA ps ns d) us)) hd h1 nc_dT fun X hX => ⟨us, rfl, ru.mono hX⟩
  show ∃ a H', V.ref l = V.ref a ∧ DPut W.H a (V.ref c) v H' ∧ D.nx σ H'
  refine ⟨l, _, rfl, DPut.t h2W hc (by rw [zipA_len rv]; exact bigL hl), ?_⟩
  rw [eu]
  exact G.nx _ σ _ (g5 (g.trans gW)) (gW.le.trans l3) e3 kd
/-- len(d) -/
theorem ec_lenT' {i : Nat} {ps : List (List Int × D)} (hd : Γ[i]? = some (.tre (.ext (dtF K ps)))) (h : k (.int (ps.length : Nat))) : EC K E (tCB rLenT (tCons (tVar i) tNil)) Γ k kx := fun S0 S σ Q e q x => by
  obtain ⟨l, o, h1, h2, _, hm, _, hf⟩ := e.ext hd
  obtain ⟨vs, rfl, rv⟩ := hf S (Le.refl S)
  refine ⟨_, h1, l, _, rfl, h2, ?_⟩
  rw [zipA_len rv]
  exact q S _ _ (Gr.refl e.ok) rpi h

/-! ### whole numbers as keys -/
theorem ec_inI {i : Nat} {ps : List (Int × D)} (hd : Γ[i]? = some (.tre (.ext (dkF K ps)))) (h : EC K E te Γ (fun y => ∃ n : Int, y = .int n ∧ k (.bl (getA ps n).isSome)) kx) : EC K E (tDIn te (tVar i)) Γ k kx := fun S0 S σ Q e q x =>
  h S0 S σ _ e (fun T v d g r ⟨n, e1, kd⟩ => by
    subst e1
    cases r.int
    obtain ⟨l, o, h1, h2, _, _, _, hf⟩ := (e.gr g).ext hd
    obtain ⟨vs, rfl, rv⟩ := hf T (Le.refl T)
    refine ⟨_, h1, l, _, rfl, DGet.k (k := .inl n) h2, ?_⟩
    have hg := get_zip kI_inj n rv
    have e2 : (valV (zipA (Sum.inl : Int → Key) ps vs) (.inl n)).isSome = (getA ps n).isSome := by
      cases hz : getA ps n with
      | none => rw [hg.1 hz]; rfl
      | some d =>
        obtain ⟨v, hv, _⟩ := hg.2 d hz
        rw [hv]; rfl
    rw [e2]
    exact q T _ _ g rpb kd) x
theorem ec_notInI {i : Nat} {ps : List (Int × D)} (hd : Γ[i]? = some (.tre (.ext (dkF K ps)))) (h : EC K E te Γ (fun y => ∃ n : Int, y = .int n ∧ k (.bl (!(getA ps n).isSome))) kx) : EC K E (tDNotIn te (tVar i)) Γ k kx := fun S0 S σ Q e q x =>
  h S0 S σ _ e (fun T v d g r ⟨n, e1, kd⟩ => by
    subst e1
    cases r.int
    obtain ⟨l, o, h1, h2, _, _, _, hf⟩ := (e.gr g).ext hd
    obtain ⟨vs, rfl, rv⟩ := hf T (Le.refl T)
    refine ⟨_, h1, l, _, rfl, DGet.k (k := .inl n) h2, ?_⟩
    have hg := get_zip kI_inj n rv
    have e2 : (valV (zipA (Sum.inl : Int → Key) ps vs) (.inl n)).isSome = (getA ps n).isSome := by
      cases hz : getA ps n with
      | none => rw [hg.1 hz]; rfl
      | some d =>
        obtain ⟨v, hv, _⟩ := hg.2 d hz
        rw [hv]; rfl
    rw [e2]
    exact q T _ _ g rpb kd) x
theorem ec_getI {i : Nat} {ps : List (Int × D)} (hd : Γ[i]? = some (.tre (.ext (dkF K ps)))) (h : EC K E te Γ (fun y => ∃ (n : Int) (d : D), y = .int n ∧ getA ps n = some d ∧ k d) kx) : EC K E (tDGet (tVar i) te) Γ k kx := fun S0 S σ Q e q x => by
  obtain ⟨l, o, h1, h2, _, hm, _, hf⟩ := e.ext hd
  refine ⟨_, h1, ?_⟩
  refine h S0 S σ _ e (fun T v d g r ⟨n, dd, e1, hg, kd⟩ => ?_) x
  subst e1
  cases r.int
  obtain ⟨vs, rfl, rv⟩ := hf T g.le
  obtain ⟨w, hw, rd⟩ := (get_zip kI_inj n rv).2 dd hg
  refine ⟨l, w, rfl, ?_, q T w dd g rd kd⟩
  rw [← hw]
  exact DGet.k (k := .inl n) (g.hp _ _ h2 hm)
theorem sc_putI {i : Nat} {ps : List (Int × D)} (hd : Γ[i]? = some (.tre (.ext (dkF K ps)))) (hl : ps.length < 1000000) (h : EC K E tv Γ (fun d => EC K E te Γ (fun y => ∃ n : Int, y = .int n ∧ P.nx (Γ.set i (.tre (.ext (dkF K (putA ps n d)))))) (P.kx Γ)) (P.kx Γ)) : SC K E (tAsg tv (gSub (tVar i) te rSetD)) Γ P := fun S0 S σ D g e G => by
  obtain ⟨l, o, h1, h2, hfz, hm, hs0, hf⟩ := e.ext hd
  refine h S0 S σ _ e (fun T v d g2 r2 h5 => ?_) (G.kx S σ Γ g (Le.refl S) e)
  refine ⟨_, h1, ?_⟩
  refine h5 S0 T σ _ (e.gr g2) (fun W u y g3 ry ⟨n, e1, kd⟩ => ?_) (G.kx T σ Γ (g.trans g2) g2.le (e.gr g2))
  subst e1
  cases ry.int
  have gW := g2.trans g3
  obtain ⟨vs, rfl, rv⟩ := hf W gW.le
  obtain ⟨us, eu, ru⟩ := put_zip kI_inj n (r2.mono g3.le) rv
  have h2W := gW.hp _ _ h2 hm
  obtain ⟨e3, l3, g5⟩ := (e.gr gW).changeX (f' := dkF K (putA ps n d)) (o := .dK (zipA Sum.inl (putA ps n d) us)) hd h1 nc_dK fun X hX => ⟨us, rfl, ru.mono hX⟩
  show ∃ a H', V.ref l = V.ref a ∧ DPut W.H a (V.int n) v H' ∧ D.nx σ H'
  refine ⟨l, _, rfl, DPut.k (k := .inl n) h2W (by rw [zipA_len rv]; exact bigL hl), ?_⟩
  rw [eu]
  exact G.nx _ σ _ (g5 (g.trans gW)) (gW.le.trans l3) e3 kd
/-- {k: v}, k a whole number -/
theorem ew_dispI {ko : O → Prop} (h : EC K E tk Γ (fun y => EC K E tv Γ (fun d => ∃ n : Int, y = .int n ∧ ko (.ext (dkF K [(n, d)]))) kx) kx) : EW K E (tDisp [(tk, tv)]) Γ ko kx := fun S0 S σ Q e q x p hn => by
  have g0 := Gr.layO e.ok hn (.dK []) nc_dK
  refine h S0 _ σ _ (e.gr g0) (fun T v y g r h2 => ?_) (x.gr g0)
  refine h2 S0 T σ _ ((e.gr g0).gr g) (fun U w d g2 r2 ⟨n, e1, kd⟩ => ?_) (x.gr (g0.trans g))
  subst e1
  cases r.int
  have hp : (⟨S.F, upd S.H p (.dK []), S.M⟩ : Wd).H p = some (.dK []) := upd_same
  have gg := g.trans g2
  have hm := e.ok.mnone hn
  have hpU := gg.hp _ _ hp hm
  have hF : U.F p = none := gg.fr _ _ hp (e.ok.fnone hn)
  have hM : U.M p = none := by rw [gg.mu _ _ hp]; exact hm
  refine ⟨hpU, [(.inl n, w)], rfl, by show 1 ≤ 15; decide, ?_⟩
  refine q ⟨U.F, upd U.H p (.dK [(.inl n, w)]), U.M⟩ _ _ [p] ((g0.trans gg).change hn hF hM _ nc_dK) ?_ nodup1 kd
  unfold Ow
  exact ⟨p, _, rfl, rfl, upd_same, ⟨hF, hM, hn⟩, fun X hX => ⟨[w], rfl, RpL.cons (r2.mono ((Le.chg U p _).trans hX)) RpL.nil⟩⟩
theorem ew_dispT {ko : O → Prop} (h : EL K E te Γ (fun ds => EC K E tv Γ (fun d => ∃ ns : List Int, ds = ns.map .int ∧ ko (.ext (dtF K [(ns, d)]))) kx) kx) : EW K E (tDispT (tCB (zTup K) (tCons te tNil)) tv) Γ ko kx := fun S0 S σ Q e q x p hn => by
  have g0 := Gr.layO e.ok hn (.dT []) nc_dT
  refine h S0 _ σ _ (e.gr g0) (fun T pp xs ds g hpp hmm r h2 => ?_) (x.gr g0)
  simp only [tNil]
  refine ⟨pp, xs, rfl, SqL.of hpp, fun c hc => ?_⟩
  have g1 := Gr.lay g.ok hc (.tup xs)
  refine h2 S0 _ σ _ (((e.gr g0).gr g).gr g1) (fun U w d g2 r2 ⟨ns, e1, kd⟩ => ?_) (x.gr ((g0.trans g).trans g1))
  subst e1
  have hp : (⟨S.F, upd S.H p (.dT []), S.M⟩ : Wd).H p = some (.dT []) := upd_same
  have gg := (g.trans g1).trans g2
  have hm := e.ok.mnone hn
  have hpU := gg.hp _ _ hp hm
  have hF : U.F p = none := gg.fr _ _ hp (e.ok.fnone hn)
  have hM : U.M p = none := by rw [gg.mu _ _ hp]; exact hm
  have hcU : U.H c = some (.tup ((kT ns).map kV)) := by
    rw [kT_vals, ← r.ints]
    exact g2.hp c _ upd_same (g.ok.mnone hc)
  refine ⟨hpU, kT ns, c, rfl, hcU, ?_⟩
  refine q ⟨U.F, upd U.H p (.dT [(kT ns, w)]), U.M⟩ _ _ [p] ((g0.trans gg).change hn hF hM _ nc_dT) ?_ nodup1 kd
  unfold Ow
  exact ⟨p, _, rfl, rfl, upd_same, ⟨hF, hM, hn⟩, fun X hX => ⟨[w], rfl, RpL.cons (r2.mono ((Le.chg U p _).trans hX)) RpL.nil⟩⟩
/-! ### the values -/
theorem en_listV {i : Nat} {ps : List (List Int × D)} {kl : List D → Prop} (hd : Γ[i]? = some (.tre (.ext (dtF K ps)))) (h : kl (ps.map (·.2))) : EN K E (tCB rListV (tCons (tBM0 K "dict" rValsT (tVar i)) tNil)) Γ kl kx := fun S0 S σ Q e q x => by
  obtain ⟨l, o, h1, h2, _, hm, _, hf⟩ := e.ext hd
  obtain ⟨vs, rfl, rv⟩ := hf S (Le.refl S)
  refine ⟨_, h1, .inr (.inr (.inl ⟨rfl, .inr ⟨_, h2⟩⟩)), l, _, rfl, rfl, h2, fun p hp => ?_⟩
  have g1 := Gr.lay e.ok hp (viewO "dict_values" p l)
  have hlp : l ≠ p := ne_new h2 hp
  refine ⟨p, l, _, rfl, upd_same, (upd_ne hlp).trans h2, ?_⟩
  rw [zipA_snd rv]
  intro c hc
  have g2 := Gr.layO g1.ok hc (.lst vs)
  exact q _ c _ _ (g1.trans g2) (g1.new hc) upd_same (g1.ok.fnone hc) (g1.ok.mnone hc) (rv.mono (g1.trans g2).le) h

/-! ### rows in the order of lists -/
def rowB (a b : List Int) : Bool := decide (a ≤ b)
abbrev rL (ns : List Int) : D := .lst (ns.map D.int)
theorem rows_of {rows : List (List Int)} {xs : List V} (ok : T.Ok) (r : RpL K T (rows.map rL) xs) : ∃ zs : List (V × List Int), zs.map (·.1) = xs ∧ zs.map (·.2) = rows ∧ (∀ z ∈ zs, Rp K T (rL z.2) z.1) ∧ ∀ z ∈ zs, ∃ t, z.1 = V.ref t ∧ SqL K T.H t (z.2.map V.int) := by
  obtain ⟨zs, e1, e2, h⟩ := rpl_zip r
  refine ⟨zs, e1, e2, h, fun z hz => ?_⟩
  have hr := h z hz
  unfold Rp at hr
  obtain ⟨a, ys, e, f, ry⟩ := hr
  refine ⟨a, e, ?_⟩
  rw [← ry.ints]
  exact SqL.of (ok.sub _ _ f)
theorem sort_rows (zs : List (V × List Int)) : (zs.mergeSort rowLe).map (·.2) = (zs.map (·.2)).mergeSort rowB := PySem.W.sort_maps (r := rowLe) (s := rowB) (fun z : V × List Int => z.2) fun a _ b _ => rfl
theorem rows_back {zs : List (V × List Int)} (h : ∀ z ∈ zs, Rp K T (rL z.2) z.1) : RpL K T (((zs.map (·.2)).mergeSort rowB).map rL) ((zs.mergeSort rowLe).map (·.1)) := by
  rw [← sort_rows]
  exact rpl_unzip fun z hz => h z (List.mem_mergeSort.mp hz)
theorem en_sortedR {kl : List D → Prop} (h : EL K E te Γ (fun ds => ∃ rows : List (List Int), ds = rows.map rL ∧ kl ((rows.mergeSort rowB).map rL)) kx) : EN K E (tCB (rSortedR K) (tCons te tNil)) Γ kl kx := fun S0 S σ Q e q x =>
  h S0 S σ _ e (fun T p xs ds g hp hm r ⟨rows, e1, kd⟩ => by
    subst e1
    simp only [tNil]
    obtain ⟨zs, e1, e2, h1, h2⟩ := rows_of g.ok r
    refine ⟨p, zs, rfl, by rw [e1]; exact SqL.of hp, h2, fun c hc => ?_⟩
    have g2 := Gr.layO g.ok hc (.lst ((zs.mergeSort rowLe).map (·.1)))
    refine q _ c _ _ (g.trans g2) (g.new hc) upd_same (g.ok.fnone hc) (g.ok.mnone hc) ((rows_back h1).mono g2.le) ?_
    rw [e2]
    exact kd) x
theorem en_sortedV {i : Nat} {ps : List (List Int × D)} {rows : List (List Int)} {kl : List D → Prop} (hd : Γ[i]? = some (.tre (.ext (dtF K ps)))) (hr : ps.map (·.2) = rows.map rL) (h : kl ((rows.mergeSort rowB).map rL)) : EN K E (tCB (rSortedV K) (tCons (tBM0 K "dict" rValsT (tVar i)) tNil)) Γ kl kx := fun S0 S σ Q e q x => by
  obtain ⟨l, o, h1, h2, _, hm, _, hf⟩ := e.ext hd
  obtain ⟨vs, rfl, rv⟩ := hf S (Le.refl S)
  refine ⟨_, h1, .inr (.inr (.inl ⟨rfl, .inr ⟨_, h2⟩⟩)), l, _, rfl, rfl, h2, fun p hp => ?_⟩
  have g1 := Gr.lay e.ok hp (viewO "dict_values" p l)
  have hlp : l ≠ p := ne_new h2 hp
  have rv1 := rv.mono g1.le
  rw [hr] at rv1
  obtain ⟨zs, e1, e2, h3, h4⟩ := rows_of g1.ok rv1
  refine ⟨p, l, _, zs, rfl, upd_same, (upd_ne hlp).trans h2, by rw [zipA_snd rv, e1], h4, fun c hc => ?_⟩
  have g2 := Gr.layO g1.ok hc (.lst ((zs.mergeSort rowLe).map (·.1)))
  refine q _ c _ _ (g1.trans g2) (g1.new hc) upd_same (g1.ok.fnone hc) (g1.ok.mnone hc) ((rows_back h3).mono g2.le) ?_
  rw [e2]
  exact h
/-! ### comprehensions -/
theorem putA_len {κ : Type} [DecidableEq κ] (ps : List (κ × D)) (k : κ) (d : D) : (putA ps k d).length ≤ ps.length + 1 := by
  unfold putA
  split
  · rw [List.length_map]
    omega
  · rw [List.length_append]
    exact Nat.le_refl _
theorem ew_dcT {wi : TI} {g : TG} {vs : List Nat} {ko : O → Prop} (h : EI K E wi Γ (fun ds => ds.length ≤ 1000000 ∧ ∃ Iv : Nat → List (List Int × D) → Prop, Iv 0 [] ∧ (∀ (i : Nat) d ps, ds[i]? = some d → Iv i ps → GW K vs g d (wipeC Γ vs) fun Δ =>
      EL K ES0 te Δ (fun ks => EC K ES0 tv Δ (fun dv => ∃ ns : List Int, ks = ns.map .int ∧ Iv (i + 1) (putA ps ns dv)) F0) F0) ∧ ∀ ps, Iv ds.length ps → ko (.ext (dtF K ps))) kx) : EW K E (tDcT wi g tYes (tCB (zTup K) (tCons te tNil)) tv vs) Γ ko kx := fun S0 S σ Q e q x =>
  h S0 S σ _ e (fun T J ds g2 w ⟨hz, Iv, h0, hs, hd⟩ Dp hn => by
    have eT := env_wipe (e.gr g2) vs
    have fresh := Gr.layO g2.ok hn (.dT []) nc_dT
    refine ⟨fun i m H => ∃ (U : Wd) (ps : List (List Int × D)) (xs : List V), U.H = H ∧ Gr T U ∧ U.H Dp = some (.dT (zipA kT ps xs)) ∧ U.F Dp = none ∧ U.M Dp = none ∧ RpL K U (ps.map (·.2)) xs ∧ i ≤ ds.length ∧ m = ds.length - i ∧ ps.length ≤ i ∧ Iv i ps,
      ⟨_, ⟨T.F, upd T.H Dp (.dT []), T.M⟩, [], [], rfl, fresh, upd_same, g2.ok.fnone hn, g2.ok.mnone hn, RpL.nil, Nat.zero_le _, rfl, Nat.le_refl _, h0⟩, ?_⟩
    rintro i m H ⟨U, ps, xs, rfl, gU, hD, hF, hM, rA, hi, rfl, ha, hI⟩
    by_cases hlt : i < ds.length
    · refine .inr ⟨w.go U i gU.ok gU.le hlt, fun H => ∃ (U : Wd) (ps : List (List Int × D)) (xs : List V), U.H = H ∧ Gr T U ∧ U.H Dp = some (.dT (zipA kT ps xs)) ∧ U.F Dp = none ∧ U.M Dp = none ∧ RpL K U (ps.map (·.2)) xs ∧ ps.length ≤ i + 1 ∧ Iv (i + 1) ps, ?_, fun y H' hy => ?_⟩
      · rintro H2 ⟨U2, ps2, xs2, e2, a, b, c, d, f, l, n⟩
        exact ⟨ds.length - (i + 1), by omega, U2, ps2, xs2, e2, a, b, c, d, f, hlt, rfl, l, n⟩
      · obtain ⟨U1, d, rfl, g1, ed, rd⟩ := w.yld U i y H' gU.ok gU.le hlt hy
        have gT1 := gU.trans g1
        refine hs i d ps ed hI S0 U1 (wipe σ vs) y _ (eT.gr gT1) rd fun τ Δ hw e2 h2 => ⟨hw.trans wipe_idem, ?_⟩
        simp only [tYes, ↓reduceIte]
        refine h2 S0 U1 τ _ e2 (fun U3 pp ys ks g3 hpp hmm r3 h3 => ?_) xp0
        simp only [tNil]
        refine ⟨pp, ys, rfl, SqL.of hpp, fun c hc => ?_⟩
        have gc := Gr.lay g3.ok hc (.tup ys)
        refine h3 S0 _ τ _ ((e2.gr g3).gr gc) (fun U4 v4 d4 g4 r4 ⟨ns, en, k4⟩ => ?_) xp0
        subst en
        have g14 := (g1.trans (g3.trans gc)).trans g4
        have gT4 := gU.trans g14
        have hcU : U4.H c = some (.tup ((kT ns).map kV)) := by
          rw [kT_vals, ← r3.ints]
          exact g4.hp c _ upd_same (g3.ok.mnone hc)
        obtain ⟨us, eu, ru⟩ := put_zip kT_inj ns r4 (rA.mono g14.le)
        have hF4 := g14.fr _ _ hD hF
        have hM4 : U4.M Dp = none := by rw [g14.mu _ _ hD, hM]
        refine ⟨_, kT ns, c, rfl, hcU, g14.hp _ _ hD hM, by rw [zipA_len rA]; exact bigL (by omega), ⟨U4.F, upd U4.H Dp (.dT (zipA kT (putA ps ns d4) us)), U4.M⟩, putA ps ns d4, us, by rw [eu], gT4.change hn hF4 hM4 _ nc_dT, upd_same, hF4, hM4, ru.mono (Le.chg U4 Dp _), ?_, k4⟩
        exact Nat.le_trans (putA_len _ _ _) (Nat.add_le_add_right ha 1)
    · have ei : i = ds.length := by omega
      subst ei
      refine .inl ⟨w.stop U _ gU.ok gU.le (Nat.le_refl _), q U _ _ [Dp] (g2.trans gU) ?_ nodup1 (hd ps hI)⟩
      unfold Ow
      exact ⟨Dp, _, rfl, rfl, hD, ⟨hF, hM, g2.new hn⟩, fun X hX => ⟨xs, rfl, rA.mono hX⟩⟩) x
theorem ew_dcI {wi : TI} {g : TG} {vs : List Nat} {ko : O → Prop} (h : EI K E wi Γ (fun ds => ds.length ≤ 1000000 ∧ ∃ Iv : Nat → List (Int × D) → Prop, Iv 0 [] ∧ (∀ (i : Nat) d ps, ds[i]? = some d → Iv i ps → GW K vs g d (wipeC Γ vs) fun Δ =>
      EC K ES0 tk Δ (fun y => EC K ES0 tv Δ (fun dv => ∃ n : Int, y = .int n ∧ Iv (i + 1) (putA ps n dv)) F0) F0) ∧ ∀ ps, Iv ds.length ps → ko (.ext (dkF K ps))) kx) : EW K E (tDc wi g tYes tk tv vs) Γ ko kx := fun S0 S σ Q e q x =>
  h S0 S σ _ e (fun T J ds g2 w ⟨hz, Iv, h0, hs, hd⟩ Dp hn => by
    have eT := env_wipe (e.gr g2) vs
    have fresh := Gr.layO g2.ok hn (.dK []) nc_dK
    refine ⟨fun i m H => ∃ (U : Wd) (ps : List (Int × D)) (xs : List V), U.H = H ∧ Gr T U ∧ U.H Dp = some (.dK (zipA Sum.inl ps xs)) ∧ U.F Dp = none ∧ U.M Dp = none ∧ RpL K U (ps.map (·.2)) xs ∧ i ≤ ds.length ∧ m = ds.length - i ∧ ps.length ≤ i ∧ Iv i ps,
      ⟨_, ⟨T.F, upd T.H Dp (.dK []), T.M⟩, [], [], rfl, fresh, upd_same, g2.ok.fnone hn, g2.ok.mnone hn, RpL.nil, Nat.zero_le _, rfl, Nat.le_refl _, h0⟩, ?_⟩
    rintro i m H ⟨U, ps, xs, rfl, gU, hD, hF, hM, rA, hi, rfl, ha, hI⟩
    by_cases hlt : i < ds.length
    · refine .inr ⟨w.go U i gU.ok gU.le hlt, fun H => ∃ (U : Wd) (ps : List (Int × D)) (xs : List V), U.H = H ∧ Gr T U ∧ U.H Dp = some (.dK (zipA Sum.inl ps xs)) ∧ U.F Dp = none ∧ U.M Dp = none ∧ RpL K U (ps.map (·.2)) xs ∧ ps.length ≤ i + 1 ∧ Iv (i + 1) ps, ?_, fun y H' hy => ?_⟩
      · rintro H2 ⟨U2, ps2, xs2, e2, a, b, c, d, f, l, n⟩
        exact ⟨ds.length - (i + 1), by omega, U2, ps2, xs2, e2, a, b, c, d, f, hlt, rfl, l, n⟩
      · obtain ⟨U1, d, rfl, g1, ed, rd⟩ := w.yld U i y H' gU.ok gU.le hlt hy
        have gT1 := gU.trans g1
        refine hs i d ps ed hI S0 U1 (wipe σ vs) y _ (eT.gr gT1) rd fun τ Δ hw e2 h2 => ⟨hw.trans wipe_idem, ?_⟩
        simp only [tYes, ↓reduceIte]
        refine h2 S0 U1 τ _ e2 (fun U3 v3 d3 g3 r3 h3 => ?_) xp0
        refine h3 S0 U3 τ _ (e2.gr g3) (fun U4 v4 d4 g4 r4 ⟨n, en, k4⟩ => ?_) xp0
        subst en
        cases r3.int
        have g14 := (g1.trans g3).trans g4
        have gT4 := gU.trans g14
        obtain ⟨us, eu, ru⟩ := put_zip kI_inj n r4 (rA.mono g14.le)
        have hF4 := g14.fr _ _ hD hF
        have hM4 : U4.M Dp = none := by rw [g14.mu _ _ hD, hM]
        refine ⟨_, .inl n, rfl, g14.hp _ _ hD hM, by rw [zipA_len rA]; exact bigL (by omega), ⟨U4.F, upd U4.H Dp (.dK (zipA Sum.inl (putA ps n d4) us)), U4.M⟩, putA ps n d4, us, by rw [eu], gT4.change hn hF4 hM4 _ nc_dK, upd_same, hF4, hM4, ru.mono (Le.chg U4 Dp _), ?_, k4⟩
        exact Nat.le_trans (putA_len _ _ _) (Nat.add_le_add_right ha 1)
    · have ei : i = ds.length := by omega
      subst ei
      refine .inl ⟨w.stop U _ gU.ok gU.le (Nat.le_refl _), q U _ _ [Dp] (g2.trans gU) ?_ nodup1 (hd ps hI)⟩
      unfold Ow
      exact ⟨Dp, _, rfl, rfl, hD, ⟨hF, hM, g2.new hn⟩, fun X hX => ⟨xs, rfl, rA.mono hX⟩⟩) x
end
end Z

/-! sorted(rows, key=len) -/
namespace L2
open PySem PySem.Spec PyProof.Rows PySem.W
abbrev lenD (z : V × List V) : PyData := .int z.2.length
def lenLe (p q : V × List V) : Bool := decide (p.2.length ≤ q.2.length)
theorem len_alike (zs : List (V × List V)) : AllAlike (zs.map lenD) := AllAlike.of (enc := lenD) fun _ _ => rfl
theorem len_sortable (zs : List (V × List V)) : Sortable (zs.map lenD) := Sortable.others (enc := lenD) fun b => ⟨fun e => (by cases e), fun xs e => by cases e⟩
theorem len_le : dataLe false lenD = lenLe := by
  have := dataLe_int fun z : V × List V => (z.2.length : Int)
  refine this.trans (funext fun p => funext fun q => ?_)
  exact decide_eq_decide.mpr (by omega)
theorem vals_eachL : ∀ {zs : List (V × List V)} {us : List Value}, Vals (zs.map (·.1)) us → EachIs (fun u (z : V × List V) => RelV z.1 u) us zs
  | [], us, r => by
    cases r
    exact .nil
  | z :: zs, us, r => by
    cases r with
    | cons a b => exact .cons a (vals_eachL b)
theorem each_valsL {us : List Value} {zs : List (V × List V)} (e : EachIs (fun u (z : V × List V) => RelV z.1 u) us zs) : Vals (zs.map (·.1)) us := by
  induction e with
  | nil => exact .nil
  | cons h _ ih => exact .cons h ih
def tSortLen (K : PySem.W.Frag) (t : TA) : TE := fun σ H Q => t σ H fun vs H1 => ∃ (a : Addr) (zs : List (V × List V)), vs = [.ref a] ∧ SqL K H1 a (zs.map (·.1)) ∧ (∀ z ∈ zs, ∃ t, z.1 = V.ref t ∧ SqL K H1 t z.2) ∧ ∀ p, H1 p = none → Q (.ref p) (upd H1 p (.lst ((zs.mergeSort lenLe).map (·.1))))
theorem sortLen_run {X : Cx} {pn : List (Addr × Obj)} {s : Shared} {σ : St} {H : Hp} {a : Addr} {zs : List (V × List V)} {Q : VK} (hu : X.A.units + 66 < cLine) (J : Inv X pn σ H s) (hs : SqL X.K H a (zs.map (·.1))) (hx : ∀ z ∈ zs, ∃ t, z.1 = V.ref t ∧ SqL X.K H t z.2) (q : ∀ p, H p = none → Q (.ref p) (upd H p (.lst ((zs.mergeSort lenLe).map (·.1))))) :
    wpAny (model X.prog X.w) X.A (call (.builtin "sorted") [.ref a] [(Str.ofString "key", .builtin "len")]) (EP X pn σ Q) X.xe s := by
  obtain ⟨its, rv, hl, hz⟩ := J.list hs
  have hlen : zs.length ≤ sizeLine := by
    rw [List.length_map] at hz
    exact hz
  refine sorted_key_data lenD hl.isList (vals_eachL rv) (len_alike zs) (len_sortable zs) hlen (fun z _ => ?_) (ksk_s1 _ _) (fun _ => ksk_l1 _ _) (fun x => ksk_t4 "len" x) (fun v z rz hzm h tk keep => ?_) fun out c h' tk keep _ hn ol oe => ?_
  · show X.A.units + 2 + 0 < cLine
    omega
  · obtain ⟨t, e, ht⟩ := hx z hzm
    rw [e] at rz
    cases (show v = Value.ref t from rz)
    obtain ⟨its2, rv2, pl, hz2⟩ := J.list ht
    obtain ⟨o, ho, hc, n, hd⟩ := pl.isList
    have hl2 := rv2.length
    have hs2 : sizeLine = 16777216 := sizeLine_eq
    refine PySem.Calls.call_len_list (s := { s with heap := h, toks := tk }) (items := its2.toArray) ⟨o, keep _ _ ho, hc, n, hd⟩ ?_ ⟨h, tk + 1 + 1, rfl, fun _ _ e => e, ?_⟩
    · rw [List.size_toArray]
      have : (its2.length : Int) ≤ 16777216 := by omega
      exact Int.lt_of_le_of_lt this (by decide)
    · have e2 : lenD z = .int (its2.toArray.size : Nat) := by
        show PyData.int (z.2.length : Nat) = _
        rw [List.size_toArray, hl2]
      rw [e2]
      exact .int _ _
  · rw [len_le] at oe
    refine ⟨.ref (s.heap.objs.size + 1), upd H (s.heap.objs.size + 1) (.lst ((zs.mergeSort lenLe).map (·.1))), J.laid (t' := tk) keep (Nat.le_succ _) ⟨?_, out, c, each_valsL oe, hn⟩, rfl, q _ (J.hok.fresh (Nat.le_succ _))⟩
    rw [List.length_map, List.length_mergeSort]
    exact hlen
theorem pe_sortLen {X : Cx} {e : Expr} {t : TA} {p p2 kpos pos : Pos} (hu : X.A.units + 66 < cLine) (hg : Gl X "sorted") (hm : X.mg "sorted" = none) (hg2 : Gl X "len") (hm2 : X.mg "len" = none) (ha : PA X [e] t)
    (he : backTo pos (starEach [e] X.env) = (false, eval e X.env) :: backTo pos (starEach [] X.env) := by rfl) (hpl : (backTo pos (starEach [e] X.env)).any (·.1) = false := by rfl) :
    PE X (.Call (.Name "sorted" p) [e] [⟨some "key", .Name "len" p2, kpos⟩] pos) (tSortLen X.K t) := by
  refine ⟨fun pn s σ H Q J h => ?_⟩
  refine wpAny_Call_Name_kw (ld_blt J hg hm (u := .builtin "sorted") (by decide +kernel) ?_)
  refine PyProof.Rows.callWith_kw (thn (ha.run pos pn s σ H _ J h) fun us s1 ⟨vs, H1, I1, r1, a, zs, ev, hs, hx, q⟩ => ?_) he hpl
  subst ev
  obtain ⟨u, rfl, ru⟩ := vals1 r1
  obtain rfl : u = Value.ref a := ru
  show wpAny _ _ (evalAll ((do let v ← eval (.Name "len" p2) X.env; standAt pos; pure v) :: [])) _ _ s1
  refine wpAny_evalAll_cons (wpAny_bind (ld_blt I1 hg2 hm2 (u := .builtin "len") (by decide +kernel) (wpAny_bind (wpAny_standAt (wpAny_pure (wpAny_evalAll_nil ?_))))))
  exact sortLen_run hu I1 hs hx q
theorem kpe_sortLen (K : PySem.W.Frag) {X : Cx} {e : Expr} {t : TA} {p p2 kpos pos : Pos} (hu : X.A.units + 66 < cLine) (hg : Gl X "sorted") (hm : X.mg "sorted" = none) (hg2 : Gl X "len") (hm2 : X.mg "len" = none) (ha : PA X [e] t)
    (he : backTo pos (starEach [e] X.env) = (false, eval e X.env) :: backTo pos (starEach [] X.env) := by rfl) (hpl : (backTo pos (starEach [e] X.env)).any (·.1) = false := by rfl) (hK : X.K = K := by rfl) :
    PE X (.Call (.Name "sorted" p) [e] [⟨some "key", .Name "len" p2, kpos⟩] pos) (tSortLen K t) := hK ▸ pe_sortLen hu hg hm hg2 hm2 ha he hpl
end L2
namespace Z
open PySem PySem.Spec PyProof.Rows L2
section
variable {K : PySem.W.Frag} {E : L2.St → XK} {S0 S T : Wd} {σ : L2.St} {Γ : Ctx} {te : TE} {kx : Addr → D → Prop}
def lenB (a b : List Int) : Bool := decide (a.length ≤ b.length)
/-- sorted(rows, key=len) -/
theorem en_sortLen {kl : List D → Prop} (h : EL K E te Γ (fun ds => ∃ rows : List (List Int), ds = rows.map rL ∧ kl ((rows.mergeSort lenB).map rL)) kx) : EN K E (tSortLen K (tCons te tNil)) Γ kl kx := fun S0 S σ Q e q x =>
  h S0 S σ _ e (fun T p xs ds g hp hm r ⟨rows, e1, kd⟩ => by
    subst e1
    simp only [tNil]
    obtain ⟨zs, e1, e2, h1, h2⟩ := rows_of g.ok r
    have em : zs.map (·.1) = (zs.map fun z => (z.1, z.2.map V.int)).map (·.1) := by
      rw [List.map_map]
      rfl
    refine ⟨p, zs.map fun z => (z.1, z.2.map V.int), rfl, by rw [← em, e1]; exact SqL.of hp, fun z hz => ?_, fun c hc => ?_⟩
    · obtain ⟨y, hy, rfl⟩ := List.mem_map.mp hz
      exact h2 y hy
    · have es : ((zs.map fun z => (z.1, z.2.map V.int)).mergeSort lenLe).map (·.1) = (zs.mergeSort fun a b => lenB a.2 b.2).map (·.1) := by
        have := PySem.W.sort_maps (r := fun a b : V × List Int => lenB a.2 b.2) (s := lenLe) (fun z : V × List Int => (z.1, z.2.map V.int)) (l := zs) fun a _ b _ => by
          unfold lenB lenLe
          rw [List.length_map, List.length_map]
        rw [← this, List.map_map]
        rfl
      rw [es]
      have rb : RpL K T (((zs.map (·.2)).mergeSort lenB).map rL) ((zs.mergeSort fun a b => lenB a.2 b.2).map (·.1)) := by
        rw [← PySem.W.sort_maps (r := fun a b : V × List Int => lenB a.2 b.2) (s := lenB) (fun z : V × List Int => z.2) (l := zs) fun a _ b _ => rfl]
        exact rpl_unzip fun z hz => h1 z (List.mem_mergeSort.mp hz)
      have g2 := Gr.layO g.ok hc (.lst ((zs.mergeSort fun a b => lenB a.2 b.2).map (·.1)))
      refine q _ c _ _ (g.trans g2) (g.new hc) upd_same (g.ok.fnone hc) (g.ok.mnone hc) (rb.mono g2.le) ?_
      rw [e2]
      exact kd) x
end
end Z

/-! tuples of tuples that the program writes down: read, and asked with in -/
namespace L2
open PySem PySem.Spec PyProof.Rows
def rInDT (K : PySem.W.Frag) : R2 := fun x y H Q => ∃ d ds, Dp K H x d ∧ Dp K H y (.tuple ds) ∧ SeqAt.shaped d = true ∧ SeqAt.shaped (.tuple ds) = true ∧ Q (.bl (ds.any fun z => PyData.eqv z d)) H
theorem op_inDT {X : Cx} (hu : X.A.units + 65 < cLine) : OpR X (compareOp .In) (rInDT X.K) := by
  intro pn s σ H x y v u Q J rx ry h
  obtain ⟨d, ds, hd, he, sd, se, q⟩ := h
  obtain ⟨as, r1⟩ := Dp.reads J d x v hd rx
  obtain ⟨bs, r2⟩ := Dp.reads J (.tuple ds) y u he ry
  exact SeqAt.in_tuple_reads r2 r1 (SeqAt.canLay_of_shaped se) (SeqAt.canLay_of_shaped sd) (room_in_shaped sd hu) ⟨.bl _, H, J, rfl, q⟩
end L2
namespace Z
open PySem PySem.Spec PyProof.Rows L2
section
variable {K : PySem.W.Frag} {E : L2.St → XK} {S0 S T : Wd} {σ : L2.St} {Γ : Ctx} {te ta tb : TE} {k : D → Prop} {kx : Addr → D → Prop}
theorem kop_inDT (K : PySem.W.Frag) {X : Cx} (hu : X.A.units + 65 < cLine) (hK : X.K = K := by rfl) : OpR X (compareOp .In) (rInDT K) := hK ▸ op_inDT hu
/-- x in a tuple -/
theorem ec_inTup {n : Nat} (hn : n + 1 ≤ 64) (h : EC K E ta Γ (fun d => EC K E tb Γ (fun y => ∃ es, y = .tup es ∧ Pu n d ∧ (∀ e ∈ es, Pu n e) ∧ ∀ b, (b = true ↔ d ∈ es) → k (.bl b)) kx) kx) : EC K E (tOp (rInDT K) ta tb) Γ k kx := fun S0 S σ Q e q x =>
  h S0 S σ _ e (fun T v d g r h2 => h2 S0 T σ _ (e.gr g) (fun U u y g2 r2 ⟨es, ey, pd, pe, hk⟩ => by
    subst ey
    have pt := pu_tup pe
    refine ⟨d.py, D.pys es, (r.mono g2.le).dp g2.ok pd.nice.pl, ?_, pd.nice.shaped (by omega), ?_, q U _ _ (g.trans g2) rpb (hk _ (any_pu pd.pu (pus_iff.mpr fun z hz => (pe z hz).pu)))⟩
    · have := r2.dp g2.ok pt.nice.pl
      rw [D.py] at this
      exact this
    · have := pt.nice.shaped hn
      rw [D.py] at this
      exact this) (x.gr g)) x
/-! ### what is written down once and for all -/
def isTup : Value → Bool
  | .type t => decide (t = "tuple")
  | _ => false
mutual
def litD (K : PySem.W.Frag) : D → V → Bool
  | .int i, v => decide (v = .int i)
  | .tup ds, .ref a => match K.lookup a with
    | some o => match o.data with
      | .seq its _ => isTup o.cls && decide (its.size ≤ sizeLine) && litL K ds its.toList
      | _ => false
    | none => false
  | _, _ => false
def litL (K : PySem.W.Frag) : List D → List Value → Bool
  | [], [] => true
  | d :: ds, u :: us => (match u with
    | .int i _ => litD K d (.int i)
    | .ref a => litD K d (.ref a)
    | _ => false) && litL K ds us
  | _, _ => false
end

theorem cls_eq {o : Obj} (h : isTup o.cls = true) : o.cls = .type "tuple" := by
  revert h
  cases o.cls <;> intro h <;> first | (cases h; done) | skip
  have : _ = "tuple" := of_decide_eq_true h
  rw [this]
mutual
theorem litD_ok : ∀ {d : D} {v : V}, litD K d v = true → ∀ S : Wd, Rp K S d v
  | .int i, v, h, S => by
    unfold litD at h
    unfold Rp
    exact of_decide_eq_true h
  | .tup ds, .ref a, h, S => by
    unfold litD at h
    split at h
    · next o ho =>
      split at h
      · next its n hd =>
        rw [Bool.and_eq_true, Bool.and_eq_true, decide_eq_true_eq] at h
        obtain ⟨vs, hv, hr⟩ := litL_ok h.2
        unfold Rp
        exact ⟨a, vs, rfl, .inr ⟨o, its, n, ho, cls_eq h.1.1, hd, h.1.2, hv⟩, hr S⟩
      · cases h
    · cases h
  | .tup ds, .non, h, S => by unfold litD at h; cases h
  | .tup ds, .bl _, h, S => by unfold litD at h; cases h
  | .tup ds, .int _, h, S => by unfold litD at h; cases h
  | .tup ds, .str _, h, S => by unfold litD at h; cases h
  | .tup ds, .byt _, h, S => by unfold litD at h; cases h
  | .tup ds, .flt _, h, S => by unfold litD at h; cases h
  | .tup ds, .ty _, h, S => by unfold litD at h; cases h
  | .non, v, h, S => by unfold litD at h; cases h
  | .bl _, v, h, S => by unfold litD at h; cases h
  | .str _, v, h, S => by unfold litD at h; cases h
  | .lst _, v, h, S => by unfold litD at h; cases h
  | .scr _, v, h, S => by unfold litD at h; cases h
  | .pool, v, h, S => by unfold litD at h; cases h
  | .any, v, h, S => by unfold litD at h; cases h
  | .val _, v, h, S => by unfold litD at h; cases h
  | .ins _ _ _, v, h, S => by unfold litD at h; cases h
  | .dic _ _ _, v, h, S => by unfold litD at h; cases h
  | .memo _, v, h, S => by unfold litD at h; cases h
  | .tab _, v, h, S => by unfold litD at h; cases h
  | .exc _ _ _, v, h, S => by unfold litD at h; cases h
theorem litL_ok : ∀ {ds : List D} {us : List Value}, litL K ds us = true → ∃ vs, Vals vs us ∧ ∀ S : Wd, RpL K S ds vs
  | [], [], h => ⟨[], .nil, fun _ => RpL.nil⟩
  | d :: ds, u :: us, h => by
    unfold litL at h
    rw [Bool.and_eq_true] at h
    obtain ⟨vs, hv, hr⟩ := litL_ok h.2
    have h1 := h.1
    split at h1
    · next i t => exact ⟨.int i :: vs, .cons ⟨t, rfl⟩ hv, fun S => RpL.cons (litD_ok h1 S) (hr S)⟩
    · next a => exact ⟨.ref a :: vs, .cons rfl hv, fun S => RpL.cons (litD_ok h1 S) (hr S)⟩
    · cases h1
  | [], _ :: _, h => by unfold litL at h; cases h
  | _ :: _, [], h => by unfold litL at h; cases h
end
/-- a name whose value is written down -/
structure Lit (K : PySem.W.Frag) (mg : Str → Option Value) (x : Str) (v : V) (d : D) : Prop where
  g : Gv mg x v
  r : ∀ S : Wd, Rp K S d v
theorem ec_lit {mg : Str → Option Value} {x : Str} {v : V} {d : D} (l : Lit K mg x v d) (hk : k d) : EC K E (tC v) Γ k kx := ec_c (fun S => l.r S) hk
theorem units1 {j : Nat} {A : Around} (r : Room j A) : A.units + 1 < cLine := by have := units65 r; omega
theorem units66 {j : Nat} {A : Around} (r : Room j A) : A.units + 66 < cLine := by have := r.un; omega
theorem kr_sortedR (K : PySem.W.Frag) {X : Cx} (hu : X.A.units + 66 < cLine) (hK : X.K = K := by rfl) : CallR X (.builtin "sorted") (rSortedR K) := hK ▸ cr_sortedR hu
theorem kr_sortedV (K : PySem.W.Frag) {X : Cx} (hu : X.A.units + 66 < cLine) (hc : X.calm = true := by rfl) (hK : X.K = K := by rfl) : CallR X (.builtin "sorted") (rSortedV K) := hK ▸ cr_sortedV hc hu
end
end Z

/-! found += [..] of an own list -/
namespace Z
open PySem PySem.Spec PyProof.Rows L2
section
variable {K : PySem.W.Frag} {E : L2.St → XK} {S0 S T : Wd} {σ : L2.St} {Γ : Ctx} {te ta tb : TE} {k : D → Prop} {kx : Addr → D → Prop} {P : Po}
theorem ps_gT {X : Cx} {st : Stmt} {i : Nat} {te : TE} (h : PS X st (tAsg te (gName i))) : PS X st (tAsg te (gT i)) := h
theorem sc_extL {i : Nat} {ds : List D} (h : Γ[i]? = some (.own ds)) (he : EL K E te Γ (fun es => ds.length + es.length < 1000000 ∧ P.nx (Γ.set i (.own (ds ++ es)))) (P.kx Γ)) : SC K E (tAug i te rExt2) Γ P := fun S0 S σ D g e G => by
  obtain ⟨l, xs, h1, h2, h3, h4, h0, r⟩ := e.own i ds h
  refine ⟨_, h1, ?_⟩
  refine he S0 S σ _ e (fun T p ys es g2 hp hm r2 ⟨hl, kd⟩ => ?_) (G.kx S σ Γ g (Le.refl S) e)
  have e2 := e.gr g2
  obtain ⟨e3, l3, g3⟩ := e2.change h h1 (RpL.append (r.mono g2.le) r2)
  have es : σ.set i (some (V.ref l)) = σ := by
    refine List.ext_getElem? fun j => ?_
    rw [List.getElem?_set]
    split
    · next ej =>
      subst ej
      split
      · rw [h1]
      · next hj =>
        rw [List.getElem?_eq_none (by omega)]
    · rfl
  refine ⟨l, p, xs, ys, rfl, rfl, g2.hp _ _ h2 h4, hp, Nat.le_of_lt (by rw [r.length, r2.length]; exact bigL hl), ?_⟩
  show D.nx (σ.set i (some (V.ref l))) _
  rw [es]
  exact G.nx _ σ _ (g3 (g.trans g2)) (g2.le.trans l3) e3 kd
end
end Z

/-! what is owned, looked at as data by an expression with a flat answer -/
namespace Z
open PySem PySem.Spec PyProof.Rows L2
@[reducible] def vwS : Sl → Sl
  | .dat (.int i) => .dat (.int i)
  | .dat (.bl b) => .dat (.bl b)
  | .dat (.str x) => .dat (.str x)
  | .dat .non => .dat .non
  | _ => .un
/-- the context in which the list of the slot i is looked at -/
@[reducible] def vwC (i : Nat) (ds : List D) (Γ : Ctx) : Ctx := (Γ.map vwS).set i (.dat (.lst ds))
def tVwL (_ : Nat) (t : TE) : TE := t
theorem pe_vwL {X : Cx} {e : Expr} {t : TE} (i : Nat) (h : PE X e t) : PE X e (tVwL i t) := h
section
variable {K : PySem.W.Frag} {E : L2.St → XK} {S0 S T : Wd} {σ : L2.St} {Γ : Ctx} {te ta tb : TE} {k : D → Prop} {kx : Addr → D → Prop} {P : Po}
theorem EnvOk.view (e : EnvOk K S0 S σ Γ) {j : Nat} {ds : List D} (hj : Γ[j]? = some (.own ds)) (hu : D.ums ds = ds) : EnvOk K S.vx S.vx σ (vwC j ds Γ) := by
  refine ⟨vx_ok e.ok, by rw [e.len]; unfold vwC; rw [List.length_set, List.length_map], fun _ => [], fun i s h => ?_, fun i j a _ h _ => absurd h List.not_mem_nil, fun _ => List.nodup_nil, fun _ _ => rfl⟩
  have h : ((Γ.map vwS).set j (.dat (.lst ds)))[i]? = some s := h
  obtain ⟨A, hA, _⟩ := e.fp
  by_cases hij : j = i
  · subst hij
    rw [List.getElem?_set_self (by rw [List.length_map]; exact (List.getElem?_eq_some_iff.mp hj).1)] at h
    cases h
    obtain ⟨l, xs, _, q, hp, w, r⟩ := hA j _ hj
    refine ⟨rfl, .ref l, q, ?_⟩
    have r2 : Rp K S.vw (.lst ds) (.ref l) := by
      unfold Rp
      exact ⟨l, xs, rfl, by rw [vw_F w.m]; exact hp, r.mono (Le.vw e.ok)⟩
    have r3 := r2.vx
    rw [um_lst, hu] at r3
    exact r3
  rw [List.getElem?_set_ne hij, List.getElem?_map] at h
  cases hg : Γ[i]? with
  | none => rw [hg] at h; cases h
  | some s0 =>
    rw [hg] at h
    cases h
    have hs := hA i s0 hg
    have fl : ∀ {d : D}, d.flat = true → SlO K S0 S (.dat d) σ[i]? (A i) → SlO K S.vx S.vx (.dat d) σ[i]? [] := fun {d} hd ⟨_, v, q, r⟩ => ⟨rfl, v, q, r.flat hd⟩
    cases s0 with
    | own ds => exact rfl
    | dat d =>
      cases d with
      | int i => exact fl rfl hs
      | bl b => exact fl rfl hs
      | str x => exact fl rfl hs
      | non => exact fl rfl hs
      | _ => exact rfl
    | un => exact rfl
    | tre o => exact rfl
    | fct d f => exact rfl
theorem ec_vwL {i : Nat} {ds : List D} (hi : Γ[i]? = some (.own ds)) (hu : D.ums ds = ds) (h : EC K E te (vwC i ds Γ) (fun d => d.flat = true ∧ k d) F0) : EC K E (tVwL i te) Γ k kx := fun S0 S σ Q e q x =>
  h S.vx S.vx σ Q (e.view hi hu) (fun T v d g r kd => q (T.un S) v d (Gr.un e.ok g) (r.flat kd.1) kd.2) xp0
end
end Z

/-! kept dicts that hold one thing, once it was asked for; fields written again -/
namespace Z
open PySem PySem.Spec PyProof.Rows L2
/-- what is kept for later with a graph: a law says it once -/
class PC where
  mm : Addr → Nat → List (Int × Int) → D
mutual
/-- data that does not lean on the written part -/
def D.kf : D → Bool
  | .non => true
  | .bl _ => true
  | .int _ => true
  | .str _ => true
  | .lst ds => D.kfs ds
  | .ins _ _ ds => D.kfs ds
  | _ => false
def D.kfs : List D → Bool
  | [] => true
  | d :: ds => D.kf d && D.kfs ds
end
mutual
theorem Rp.to0 {K : PySem.W.Frag} {S : Wd} : ∀ {d : D} {v : V}, d.kf = true → Rp K S d v → Rp K0 S d v
  | .non, v, _, h => by unfold Rp at h ⊢; exact h
  | .bl b, v, _, h => by unfold Rp at h ⊢; exact h
  | .int i, v, _, h => by unfold Rp at h ⊢; exact h
  | .str x, v, _, h => by unfold Rp at h ⊢; exact h
  | .lst ds, v, k, h => by
    unfold Rp at h ⊢
    unfold D.kf at k
    obtain ⟨a, xs, e, f, r⟩ := h
    exact ⟨a, xs, e, f, RpL.to0 k r⟩
  | .ins C ns ds, v, k, h => by
    unfold Rp at h ⊢
    unfold D.kf at k
    obtain ⟨a, dx, fs, e, f, n, r⟩ := h
    exact ⟨a, dx, fs, e, f, n, RpL.to0 k r⟩
  | .tup _, _, k, _ => by unfold D.kf at k; cases k
  | .scr _, _, k, _ => by unfold D.kf at k; cases k
  | .pool, _, k, _ => by unfold D.kf at k; cases k
  | .any, _, k, _ => by unfold D.kf at k; cases k
  | .val _, _, k, _ => by unfold D.kf at k; cases k
  | .dic _ _ _, _, k, _ => by unfold D.kf at k; cases k
  | .memo _, _, k, _ => by unfold D.kf at k; cases k
  | .tab _, _, k, _ => by unfold D.kf at k; cases k
  | .exc _ _ _, _, k, _ => by unfold D.kf at k; cases k
theorem RpL.to0 {K : PySem.W.Frag} {S : Wd} : ∀ {ds : List D} {vs : List V}, D.kfs ds = true → RpL K S ds vs → RpL K0 S ds vs
  | [], vs, _, h => by unfold RpL at h ⊢; exact h
  | d :: ds, vs, k, h => by
    unfold RpL at h ⊢
    unfold D.kfs at k
    obtain ⟨k1, k2⟩ := Bool.and_eq_true_iff.mp k
    obtain ⟨y, ys, e, r, t⟩ := h
    exact ⟨y, ys, e, Rp.to0 k1 r, RpL.to0 k2 t⟩
end
theorem kfs_of : ∀ {ds : List D}, (∀ d ∈ ds, d.kf = true) → D.kfs ds = true
  | [], _ => by unfold D.kfs; rfl
  | d :: ds, h => by
    unfold D.kfs
    rw [h d List.mem_cons_self, kfs_of fun e he => h e (List.mem_cons_of_mem _ he)]
    rfl
theorem kf_lst {ds : List D} (h : ∀ d ∈ ds, d.kf = true) : (D.lst ds).kf = true := by unfold D.kf; exact kfs_of h
theorem kf_ins {C : Addr} {ns : List Str} {ds : List D} (h : ∀ d ∈ ds, d.kf = true) : (D.ins C ns ds).kf = true := by unfold D.kf; exact kfs_of h
theorem kf_int (i : Int) : (D.int i).kf = true := by unfold D.kf; rfl
theorem kf_str (x : Str) : (D.str x).kf = true := by unfold D.kf; rfl
theorem kf_iL (ns : List Int) : (D.lst (ns.map D.int)).kf = true := kf_lst fun d hd => by
  obtain ⟨i, _, rfl⟩ := List.mem_map.mp hd
  exact kf_int i
section
variable {K : PySem.W.Frag} {E : L2.St → XK} {S0 S T : Wd} {σ : L2.St} {Γ : Ctx} {te ta tb tv tk : TE} {k : D → Prop} {kx : Addr → D → Prop} {P : Po} {C : Addr}
/-- {} that is kept -/
theorem ec_memo {d : D} (hk : k (.memo d)) : EC K E tDNewK Γ k kx := fun S0 S σ Q e q x p hn => by
  have g1 := Gr.layO e.ok hn (.dK []) nc_dK
  have g2 := g1.mkc (p := p) (k := .memo d) hn (e.ok.fnone hn) (e.ok.mnone hn) ⟨[], upd_same, .inl rfl⟩
  refine q _ (.ref p) _ g2 ?_ hk
  unfold Rp
  exact ⟨p, rfl, if_pos rfl⟩
/-- if "parts" not in x.memo: x.memo["parts"] = v; return x.memo["parts"] -/
theorem sc_parts {i : Nat} {f : Str} {fs ns : List Str} {ds : List D} {d : D} (T0 : ClO K C fs) (hf : f ∈ fs) (hΓ : Γ[i]? = some (.dat (.ins C ns ds))) (hl : (ns.zip ds).lookup f = some (.memo d)) (kf : d.kf = true) (hv : EC K E tv Γ (fun y => y = d) (P.kx Γ)) (h : P.rt d) :
    SC K E (tSeq (tIfS (tB (tDNotIn (tC (.str "parts")) (tFld K (tVar i) f))) (tAsg tv (gSub (tFld K (tVar i) f) (tC (.str "parts")) rSetD)) tNext) (tRet (tDGet (tFld K (tVar i) f) (tC (.str "parts"))))) Γ P := fun S0 S σ D g e G => by
  obtain ⟨x, h1, r⟩ := e.dat i _ hΓ
  unfold Rp at r
  obtain ⟨a, dx, gs, rfl, hfa, hn, rl⟩ := r
  obtain ⟨y, e1, r1⟩ := look_fs hn rl hl
  unfold Rp at r1
  obtain ⟨m, rfl, hm⟩ := r1
  have fld : ∀ (T : Wd) (Q : VK), Gr S T → Q (.ref m) T.H → tFld K (tVar i) f σ T.H Q := fun T Q g2 q => ⟨_, h1, a, C, dx, gs, .ref m, rfl, g2.ok.sub _ _ (g2.fz _ _ hfa), T0.cl, T0.no f hf, e1, q⟩
  have fin : ∀ (T : Wd) (v : V), Gr S T → T.H m = some (.dK [(.inr "parts", v)]) → Rp K0 T d v → tRet (tDGet (tFld K (tVar i) f) (tC (.str "parts"))) D σ T.H := fun T v g2 hp r2 => by
    show tFld K (tVar i) f σ T.H fun x H1 => tC (.str "parts") σ H1 fun y H2 => ∃ a v, x = .ref a ∧ DGet H2 a y (some v) ∧ D.rt v H2
    refine fld T _ g2 ?_
    refine ⟨m, v, rfl, ?_, G.rt T v d (g.trans g2) (r2.k0) h⟩
    have e2 : valV [((Sum.inr ("parts" : Str) : Key), v)] (.inr "parts") = some v := valV_pos rfl
    rw [← e2]
    exact DGet.k (k := .inr "parts") hp
  obtain ⟨_, kvs, hp, hk⟩ := e.ok.kd m _ hm
  show tFld K (tVar i) f σ S.H fun x H2 => ∃ a o, x = .ref a ∧ DGet H2 a (.str "parts") o ∧ ∃ c, V.bl (!o.isSome) = .bl c ∧ if c = true then (tAsg tv (gSub (tFld K (tVar i) f) (tC (.str "parts")) rSetD)) { D with nx := tRet (tDGet (tFld K (tVar i) f) (tC (.str "parts"))) D } σ H2 else tNext { D with nx := tRet (tDGet (tFld K (tVar i) f) (tC (.str "parts"))) D } σ H2
  refine fld S _ (Gr.refl e.ok) ⟨m, valV kvs (.inr "parts"), rfl, DGet.k (k := .inr "parts") hp, _, rfl, ?_⟩
  rcases hk with rfl | ⟨v, rfl, r2⟩
  · rw [show (!(valV ([] : List (Key × V)) (.inr "parts")).isSome) = true from rfl, if_pos rfl]
    refine hv S0 S σ _ e (fun T v y g2 r3 ey => ?_) (G.kx S σ Γ g (Le.refl S) e)
    subst ey
    refine fld T _ g2 ?_
    have hm2 := g2.le.mu m _ hm
    obtain ⟨_, kvs2, hp2, hk2⟩ := g2.ok.kd m _ hm2
    have hput : putK kvs2 (.inr "parts") v = [(.inr "parts", v)] := by
      rcases hk2 with rfl | ⟨v', rfl, _⟩
      · rfl
      · unfold putK
        simp
    have hlen : kvs2.length < 1000000 := by
      rcases hk2 with rfl | ⟨v', rfl, _⟩ <;> simp
    refine ⟨m, _, rfl, DPut.k (k := .inr "parts") hp2 (bigL hlen), ?_⟩
    rw [hput]
    have r4 : Rp K0 ⟨T.F, upd T.H m (.dK [(.inr "parts", v)]), T.M⟩ y v := (r3.to0 kf).mono (Le.chg T m _)
    have g3 : Gr T ⟨T.F, upd T.H m (.dK [(.inr "parts", v)]), T.M⟩ := Gr.cell g2.ok hm2 (.dK [(.inr "parts", v)]) ⟨_, upd_same, .inr ⟨v, rfl, r4⟩⟩ nc_dK
    exact fin _ v (g2.trans g3) upd_same r4
  · rw [show (!(valV [((Sum.inr ("parts" : Str) : Key), v)] (.inr "parts")).isSome) = false by rw [valV_pos rfl]; rfl, if_neg Bool.false_ne_true]
    exact fin S v (Gr.refl e.ok) hp r2
/-! a field that is written again -/
theorem putF_set {f : Str} {v : V} : ∀ (fs : List (Str × V)) (j : Nat), (fs.map (·.1))[j]? = some f → f ∉ (fs.map (·.1)).take j → (putF f v fs).map (·.1) = fs.map (·.1) ∧ (putF f v fs).map (·.2) = (fs.map (·.2)).set j v
  | [], j, h, _ => by simp at h
  | (g, x) :: r, 0, h, _ => by
    have hg : g = f := by simpa using h
    unfold putF
    rw [if_pos hg]
    exact ⟨by rw [List.map_cons, List.map_cons, hg], by rw [List.map_cons, List.map_cons, List.set_cons_zero]⟩
  | (g, x) :: r, j + 1, h, hn => by
    rw [List.map_cons, List.take_succ_cons, List.mem_cons] at hn
    have hg : ¬ g = f := fun z => hn (.inl z.symm)
    obtain ⟨a, b⟩ := putF_set r j (by simpa using h) fun z => hn (.inr z)
    unfold putF
    rw [if_neg hg]
    exact ⟨by rw [List.map_cons, a, List.map_cons], by rw [List.map_cons, b, List.map_cons, List.set_cons_succ]⟩
theorem OwL.setF {d0 d : D} {v : V} (hr : Rp K S d v) : ∀ {os : List O} {vs : List V} {A : List Addr} (j : Nat), OwL K S0 S os vs A → os[j]? = some (.fz d0) → OwL K S0 S (os.set j (.fz d)) (vs.set j v) A
  | [], _, _, j, _, h => by simp at h
  | o :: os, vs, A, 0, r, h => by
    obtain ⟨y, ys, B, B2, rfl, rfl, r1, r2⟩ := r.cons_inv
    have h : o = .fz d0 := by simpa using h
    subst h
    unfold Ow at r1
    obtain ⟨rfl, _⟩ := r1
    rw [List.set_cons_zero, List.set_cons_zero]
    exact OwL.cons (by unfold Ow; exact ⟨rfl, hr⟩) r2
  | o :: os, vs, A, j + 1, r, h => by
    obtain ⟨y, ys, B, B2, rfl, rfl, r1, r2⟩ := r.cons_inv
    rw [List.set_cons_succ, List.set_cons_succ]
    exact OwL.cons r1 (OwL.setF hr j r2 (by simpa using h))
theorem sc_fldSet {i : Nat} {b : Addr} {f : Str} {fs ns : List Str} {os : List O} (j : Nat) {d0 : D} (T0 : ClO K C fs) (hff : f ∈ fs) (h : Γ[i]? = some (.tre (.ins b C ns os))) (hj : ns[j]? = some f) (hu : f ∉ ns.take j) (hj2 : os[j]? = some (.fz d0)) (hl : ns.length < 1000) (he : EC K E te Γ (fun d => P.nx (Γ.set i (.tre (.ins b C ns (os.set j (.fz d)))))) (P.kx Γ)) : SC K E (sFld K (tVar i) te f) Γ P := fun S0 S σ D g e G =>
  he S0 S σ _ e (fun T v d g2 r kd => by
    have e2 := e.gr g2
    obtain ⟨x, A, h1, ro, nd⟩ := e2.tre i _ h
    unfold Ow at ro
    obtain ⟨dx, fs', B, rfl, rfl, hp, w, hns, rl⟩ := ro
    let l := b
    obtain ⟨p1, p2⟩ := putF_set (f := f) (v := v) fs' j (by rw [hns]; exact hj) (by rw [hns]; exact hu)
    refine ⟨_, h1, l, C, dx, fs', rfl, hp, T0.cl, T0.no f hff, by rw [← hns, List.length_map] at hl; exact hl, ?_⟩
    have nl : l ∉ B := (List.nodup_cons.mp nd).1
    have ok2 : Wd.Ok ⟨T.F, upd T.H l (.ins C dx (putF f v fs')), T.M⟩ := g2.ok.change w.f w.m
    have e3 := e2.step i (s' := .tre (.ins l C ns (os.set j (.fz d)))) (x' := some (.ref l)) ok2 fun B0 hB0 n0 => by
      obtain ⟨y, q0, r0⟩ := hB0 _ h
      rw [h1] at q0
      cases q0
      unfold Ow at r0
      obtain ⟨dx', fs2, B', rfl, e', hp', w', hns', rl'⟩ := r0
      rw [hp] at hp'
      cases hp'
      have nl' : l ∉ B' := (List.nodup_cons.mp n0).1
      refine ⟨fun A hA => Keeps.chg fun z => hA l z List.mem_cons_self, l :: B', ⟨.ref l, rfl, ?_⟩, n0, fun a ha => .inl ha⟩
      unfold Ow
      refine ⟨dx, putF f v fs', B', rfl, rfl, upd_same, ⟨w.f, w.m, w.n⟩, by rw [p1, hns], ?_⟩
      rw [p2]
      exact OwL.setF (r.mono (Le.chg T l _)) j (rl'.keeps (Keeps.chg (S0 := S0) (S := T) (o := .ins C dx (putF f v fs')) nl')) hj2
    rw [EnvOk.same h1] at e3
    exact G.nx _ σ _ ((g.trans g2).change w.n w.f w.m _) (g2.le.trans (Le.chg T l _)) e3 kd) (G.kx S σ Γ g (Le.refl S) e)
end
end Z

/-! found.append(left.pop(i)); pairs turned by [::1] or [::-1]; isinstance of what a suite holds -/
namespace HT
open PySem PyProof.Rows
section
variable {prog : Program} {w : World} {A : Around} {E : Value → Shared → Prop} {s : Shared}
theorem sliceApplied_step {sl : Addr} {vl vu vs : Value} {z : Int} {Q : Int × Int × Nat → Shared → Prop} (hs : s.heap.IsSliceOf sl vl vu vs) (pl : IsPart vl none) (pu : IsPart vu none) (ps : IsPart vs (some z)) (hz : z = 1 ∨ z = -1)
    (h1 : z = 1 → Q (0, 1, 2) s) (h2 : z = -1 → Q (1, -1, 2) s) : wpAny (model prog w) A (Builtin.Slice.sliceApplied (.ref sl) (pure (2 : Int))) Q E s := by
  obtain ⟨os, hos, hcs, hds⟩ := id hs
  unfold Builtin.Slice.sliceApplied Builtin.Slice.sliceFields
  refine wpAny_bind (wpAny_bind (wpAny_field hos hds (x := vl) rfl (wpAny_bind (wpAny_field hos hds (x := vu) rfl (wpAny_bind (wpAny_field hos hds (x := vs) rfl (wpAny_pure ?_)))))))
  refine wpAny_bind (slicePart_ ps ?_)
  show wpAny _ _ (if (z == 0) = true then _ else _) _ _ s
  rcases hz with rfl | rfl
  · rw [if_neg (by decide)]
    refine wpAny_bind (slicePart_ pl (wpAny_bind (slicePart_ pu (wpAny_bind (wpAny_pure ?_)))))
    exact wpAny_pure (h1 rfl)
  · rw [if_neg (by decide)]
    refine wpAny_bind (slicePart_ pl (wpAny_bind (slicePart_ pu (wpAny_bind (wpAny_pure ?_)))))
    exact wpAny_pure (h2 rfl)
theorem getItem_pair_step {t sl : Addr} {a b vl vu vs : Value} {z : Int} {Q : Value → Shared → Prop} (ht : IsTup s.heap t #[a, b]) (hs : s.heap.IsSliceOf sl vl vu vs) (pl : IsPart vl none) (pu : IsPart vu none) (ps : IsPart vs (some z)) (hz : z = 1 ∨ z = -1)
    (h1 : z = 1 → Q (.ref t) s) (h2 : z = -1 → Q (.ref s.heap.objs.size) { s with heap := s.heap.push { cls := .type "tuple", data := .seq #[b, a] } }) : wpAny (model prog w) A (getItem (.ref t) (.ref sl)) Q E s := by
  have htake : sizeOk (.seq #[b, a]) := by
    show 2 ≤ sizeLine
    decide
  obtain ⟨os, hos, hcs, hds⟩ := id hs
  have hTs : s.TypeIs (.ref sl) "slice" := ⟨os, hos, hcs⟩
  unfold getItem
  try with_reducible refine wpAny_holding ?_
  first | refine wpAny_bind (wpAny_pure ?_) | skip
  refine wpAny_bind (wpAny_sequenceKey ht.typeIs (by decide) ?_)
  refine wpAny_bind (wpAny_callSpecial?_slot (name := Str.ofString "__getitem__") ht.typeIs PyProof.Rows.slot_tuple_getitem
    (wpAny_call_entry PyProof.Rows.slot_tuple_getitem ht.typeIs entry_tuple_getitem ?_ (args_tuple_getitem _ _)))
  show wpAny _ _ (Builtin.Tuple.tupleItemsOf (.ref t) >>= _) _ _ s
  refine wpAny_bind (tupleItemsOf_ ht ?_)
  refine wpAny_bind (wpAny_typeOf hTs ?_)
  rw [if_pos (by decide)]
  refine wpAny_bind (sliceApplied_step hs pl pu ps hz (fun e => ?_) (fun e => ?_))
  · show wpAny _ _ (if ((((0 : Int)) == 0 && (1 : Int) == 1 && (2 : Nat) == 2)) = true then _ else _) _ _ s
    rw [if_pos (by decide)]
    refine wpAny_bind ?_
    show wpAny _ _ (typeOf (.ref t) >>= fun T => pure (T == .type "tuple")) _ _ s
    refine wpAny_bind (wpAny_typeOf ht.typeIs (wpAny_pure ?_))
    have h := h1 e
    first
      | rw [if_pos (by decide)]
      | simp only [beq_self_eq_true, if_true]
    first
      | exact wpAny_bind (wpAny_rule (wpAny_pure ⟨_, rfl, wpAny_pure h⟩))
      | exact wpAny_bind (wpAny_rule (wpAny_bind (wpAny_pure (wpAny_pure ⟨_, rfl, wpAny_pure h⟩))))
  · show wpAny _ _ (if ((((1 : Int)) == 0 && (-1 : Int) == 1 && (2 : Nat) == 2)) = true then _ else _) _ _ s
    rw [if_neg (by decide)]
    have h := h2 e
    first
      | exact wpAny_bind (m := Builtin.Tuple.tupleExact _) (wpAny_newObj_type (wpAny_pure ⟨_, rfl, wpAny_pure h⟩) htake)
      | exact wpAny_bind (m := Builtin.Tuple.tupleExact _) (wpAny_newObj_type (wpAny_bind (wpAny_pure (wpAny_pure ⟨_, rfl, wpAny_pure h⟩))) htake)
      | exact wpAny_bind (wpAny_bind (m := Builtin.Tuple.tupleExact _) (wpAny_newObj_type (wpAny_pure (wpAny_pure ⟨_, rfl, wpAny_pure h⟩)) htake))
      | exact wpAny_bind (wpAny_bind (m := Builtin.Tuple.tupleExact _) (wpAny_newObj_type (wpAny_pure ⟨_, rfl, wpAny_pure h⟩) htake))
end
end HT
namespace Z
open PySem PySem.Spec PyProof.Rows L2
/-! e[::z], e a pair -/
def rStepT (K : PySem.W.Frag) (x : V) (Q : VK) (z : Int) (H2 : Hp) : Prop := ∃ (a : Addr) (u v : V), x = .ref a ∧ SqT K H2 a [u, v] ∧ (z = 1 ∨ z = -1) ∧ (z = 1 → Q (.ref a) H2) ∧ (z = -1 → ∀ p, H2 p = none → Q (.ref p) (upd H2 p (.tup [v, u])))
def tStepT (K : PySem.W.Frag) (te ts : TE) : TE := fun σ H Q => te σ H fun x H1 => ts σ H1 fun y H2 => ∃ z : Int, y = .int z ∧ rStepT K x Q z H2
section
variable {X : Cx}
theorem pe_stepT {e es : Expr} {te ts : TE} {p3 pos : Pos} (he : PE X e te) (hs : PE X es ts) : PE X (.Subscript e (.Slice none none (some es) p3) pos) (tStepT X.K te ts) := by
  refine ⟨fun pins s σ H Q I h => ?_⟩
  refine Subscript_ (thn (he.run pins s σ H _ I h) fun v s1 ⟨x, H1, I1, r1, q1⟩ => ?_)
  have hst : PO X (some es) (tPart ts) := po_some hs
  refine wpAny_Slice (thn (po_none.run pins s1 σ H1 (fun o H2 => o = none ∧ H2 = H1) I1 ⟨rfl, rfl⟩) fun vl s2 ⟨l, H2, I2, pl, el, e2⟩ => ?_)
  subst el e2
  refine thn (po_none.run pins s2 σ H2 (fun o H3 => o = none ∧ H3 = H2) I2 ⟨rfl, rfl⟩) fun vu s3 ⟨u, H3, I3, pu, eu, e3⟩ => ?_
  subst eu e3
  refine thn (hst.run pins s3 σ H3 (fun o H4 => match o with | some z => rStepT X.K x Q z H4 | none => False) I3 q1) fun vs s4 ⟨o, H4, I4, ps, hq⟩ => ?_
  cases o with
  | none => exact hq.elim
  | some z =>
  obtain ⟨a, y1, y2, ex, hx, hz, q3, q2⟩ := hq
  subst ex
  cases r1
  have I5 : Inv X pins σ H4 { s4 with heap := s4.heap.push { cls := .type "slice", data := .fields #[vl, vu, vs] } } := I4.kept (t' := s4.toks) fun b ob q => Heap.get?_push_of_some _ q
  obtain ⟨its, r, ht, hsz⟩ := I5.tuple hx
  obtain ⟨u1, u2, rfl, r1, r2⟩ := r.two
  refine tail_any (ops := [.ref a, .ref s4.heap.objs.size]) ht.typeIs (PyProof.Rows.slot_tuple_getitem.lookup) ?_ (by with_unfolding_all rfl)
  refine HT.getItem_pair_step (a := u1) (b := u2) ht (Heap.IsSliceOf.new _ vl vu vs) pl pu ps hz (fun e => ?_) (fun e => ?_)
  · exact ⟨.ref a, H4, I5, rfl, q3 e⟩
  · refine ⟨.ref _, _, I5.laid (t' := s4.toks) (o := .tup [y2, y1]) (fun b ob q => Heap.get?_push_of_some _ q) (Nat.le_refl _) ?_, rfl, q2 e _ (I5.hok.fresh (Nat.le_refl _))⟩
    exact ⟨by show 2 ≤ sizeLine; decide, [u2, u1], .cons r2 (.cons r1 .nil), IsTup.new _ _⟩
end
section
variable {K : PySem.W.Frag} {E : L2.St → XK} {S0 S T : Wd} {σ : L2.St} {Γ : Ctx} {te ts : TE} {al : TA} {k : D → Prop} {kx : Addr → D → Prop} {P : Po}
theorem kpe_stepT (K : PySem.W.Frag) {X : Cx} {e es : Expr} {te ts : TE} {p3 pos : Pos} (he : PE X e te) (hs : PE X es ts) (hK : X.K = K := by rfl) : PE X (.Subscript e (.Slice none none (some es) p3) pos) (tStepT K te ts) := hK ▸ pe_stepT he hs
theorem ec_stepT (h : EC K E te Γ (fun d => ∃ d1 d2, d = .tup [d1, d2] ∧ EC K E ts Γ (fun y => ∃ z : Int, y = .int z ∧ (z = 1 ∨ z = -1) ∧ k (if z = 1 then .tup [d1, d2] else .tup [d2, d1])) kx) kx) : EC K E (tStepT K te ts) Γ k kx := fun S0 S σ Q e q x =>
  h S0 S σ _ e (fun T v d g r ⟨d1, d2, ed, h2⟩ => by
    subst ed
    refine h2 S0 T σ _ (e.gr g) (fun U w y g2 r2 ⟨z, ey, hz, kd⟩ => ?_) (x.gr g)
    subst ey
    cases r2.int
    have r3 := r.mono g2.le
    have r4 := r3
    unfold Rp at r3
    obtain ⟨a, xs, rfl, f, rl⟩ := r3
    obtain ⟨u1, t1, rfl, ra, rl⟩ := rl.cons_inv
    obtain ⟨u2, t2, rfl, rb, rl⟩ := rl.cons_inv
    cases rl.nil_inv
    refine ⟨z, rfl, a, u1, u2, rfl, sqt_mono g2.ok.sub f, hz, fun e1 => ?_, fun e1 p hn => ?_⟩
    · rw [if_pos e1] at kd
      exact q U _ _ (g.trans g2) r4 kd
    · rw [if_neg (by omega)] at kd
      have g3 := Gr.lay g2.ok hn (.tup [u2, u1])
      refine q _ _ _ ((g.trans g2).trans g3) ?_ kd
      unfold Rp
      exact ⟨p, [u2, u1], rfl, .inl (.inl upd_same), RpL.cons (rb.mono g3.le) (RpL.cons (ra.mono g3.le) RpL.nil)⟩) x
theorem mtk_popAt {X : Cx} : MtR X "list.pop" rPopAt := mt_popAt
theorem rpl_erase {ds : List D} {vs : List V} : ∀ (i : Nat), RpL K S ds vs → RpL K S (ds.eraseIdx i) (vs.eraseIdx i) := fun i r => by
  rw [List.eraseIdx_eq_take_drop_succ, List.eraseIdx_eq_take_drop_succ]
  exact RpL.append (RpL.take i r) (RpL.drop (i + 1) r)
/-- found.append(left.pop(i)) -/
theorem sc_appPop {i j : Nat} {ds es : List D} (hij : i ≠ j) (hi : Γ[i]? = some (.own ds)) (hj : Γ[j]? = some (.own es)) (hl : ds.length < 1000000) (he : EA K E al Γ (fun as => ∃ (z : Nat) (d : D), as = [.int z] ∧ z < 1000000 ∧ es[z]? = some d ∧ P.nx ((Γ.set j (.own (es.eraseIdx z))).set i (.own (ds ++ [d])))) (P.kx Γ)) :
    SC K E (tDrop (tBM K "list" rAppend (tVar i) (tCons (tBM K "list" rPopAt (tVar j) al) tNil))) Γ P := fun S0 S σ D g e G => by
  obtain ⟨l, xs, h1, h2, h3, h4, h0, r⟩ := e.own i ds hi
  obtain ⟨m, ys, m1, m2, m3, m4, m0, rm⟩ := e.own j es hj
  refine ⟨_, h1, .inl ⟨rfl, xs, SqL.of h2⟩, ?_⟩
  show tBM K "list" rPopAt (tVar j) al σ S.H _
  refine ⟨_, m1, .inl ⟨rfl, ys, SqL.of m2⟩, ?_⟩
  refine he S0 S σ _ e (fun T vs as g2 ra ⟨z, d, ea, hz, hd, kd⟩ => ?_) (G.kx S σ Γ g (Le.refl S) e)
  subst ea
  obtain ⟨w, ws, rfl, rw1, rw2⟩ := ra.cons_inv
  cases rw2.nil_inv
  cases rw1.int
  have e2 := e.gr g2
  obtain ⟨v, hv, rv⟩ := (rm.mono g2.le).get hd
  have hzl : z < ys.length := (List.getElem?_eq_some_iff.mp hv).1
  have hseq : seqIndex? (z : Int) ys.length = some z := by rw [seqIndex_of (by omega) (by omega)]; rfl
  obtain ⟨e3, l3, g3⟩ := e2.change (es := es.eraseIdx z) (ys := ys.eraseIdx z) hj m1 (rpl_erase z (rm.mono g2.le))
  refine ⟨m, ys, z, z, v, rfl, rfl, g2.hp _ _ m2 m4, by omega, by omega, hseq, hv, ?_⟩
  have hi2 : (Γ.set j (.own (es.eraseIdx z)))[i]? = some (.own ds) := by rw [List.getElem?_set_ne (Ne.symm hij)]; exact hi
  have gg := g3 (g.trans g2)
  obtain ⟨l', xs', k1, k2, k3, k4, k0, r'⟩ := e3.own i ds hi2
  rw [h1] at k1
  cases k1
  obtain ⟨e4, l4, g4⟩ := e3.change (es := ds ++ [d]) (ys := xs' ++ [v]) hi2 h1 (RpL.append r' (RpL.cons (rv.mono l3) RpL.nil))
  exact ⟨l, xs', v, rfl, rfl, k2, by rw [r'.length]; exact bigL hl, G.nx _ σ _ (g4 gg) (g2.le.trans (l3.trans l4)) e4 kd⟩
end
end Z

/-! isinstance of what a suite holds -/
namespace Z
open PySem PySem.Spec PyProof.Rows L2
/-- what the class C of an exception must say, so that isinstance asks its instances rightly -/
structure XisC (K : PySem.W.Frag) (C : Addr) : Prop where
  ha : PySem.W.findIn K (.ref C) "__class__" = some (some (.builtin "object.__class__"))
  hn : PySem.W.specialIn K (.builtin "object.__class__") "__get__" = some (some (.builtin "getset_descriptor.__get__"))
  ht : PySem.W.takesIn K (.builtin "object.__class__") = some true
  hm : PySem.W.mroIn K C (.type "object") = some true
def rIsX (K : PySem.W.Frag) (a : Addr) (cls : Value) (d : Option Addr) (C : Addr) : List V → Hp → VK → Prop := fun xs H Q => ∃ (c : V) (cv : Value) (dd : Addr) (fs : List (Str × V)) (b : Bool), xs = [.ref a, c] ∧ ClsV c cv ∧ cls = .ref C ∧ d = some dd ∧ H dd = some (.xd fs) ∧ PySem.W.kitOne K (.ref C) cv = some b ∧ Q (.bl b) H
theorem call_isX {X : Cx} {a C : Addr} {oe : Obj} {cls : Value} {d : Option Addr} {pn : List (Addr × Obj)} (T : XfC X.K C) (J : XisC X.K C) (hz : Zc cls d oe) (hf : ∃ vs, oe.data = .fields vs) : CallR (X.suite a ((a, oe) :: pn)) (.builtin "isinstance") (rIsX X.K a cls d C) := by
  intro pins s σ H xs us Q I r h
  obtain ⟨c, cv, dd, fs, b, rfl, hcv, rfl, rfl, hd, e, q⟩ := h
  obtain ⟨u1, u2, rfl, r1, r2⟩ := r.two
  cases (show u1 = Value.ref a from r1)
  cases hcv.eq r2
  obtain ⟨hget, _⟩ := I.pin (a, oe) (List.mem_append.mpr (.inl List.mem_cons_self))
  obtain ⟨vs, hv⟩ := hf
  obtain ⟨mA, hns, _⟩ := (show ObjOk X.prog X.w H s.heap dd (.xd fs) from I.hok dd _ hd)
  obtain ⟨od, ho, _⟩ := lookIn_ns hns
  have Ji : PySem.W.InstAt s.heap a oe C (some od) := ⟨hget, hz.1, by unfold PySem.W.notCls; rw [hv] <;> rfl, by rw [hz.2]; exact ho⟩
  have hcl : (PySem.W.clsIn X.K C).isSome = true := by
    obtain ⟨cd, hc, _⟩ := PySem.W.any_some T.hdC
    rw [hc]
    rfl
  exact PySem.W.kia_one (PySem.W.kitx_exc hcl T.ga T.gg T.exC J.ha J.hn J.ht J.hm) I.kIn Ji e (fun z => nomatch z) fun tk => ⟨.bl b, H, I.kept (t' := tk) fun _ _ z => z, rfl, q⟩
section
variable {K : PySem.W.Frag} {E : L2.St → XK} {Γ : Ctx} {k : D → Prop} {kx : Addr → D → Prop}
theorem kcall_isX (K : PySem.W.Frag) {X : Cx} {a C : Addr} {oe : Obj} {cls : Value} {d : Option Addr} {pn : List (Addr × Obj)} (T : XfC K C) (J : XisC K C) (hz : Zc cls d oe) (hf : ∃ vs, oe.data = .fields vs) (hK : X.K = K := by rfl) : CallR (X.suite a ((a, oe) :: pn)) (.builtin "isinstance") (rIsX K a cls d C) := by
  subst hK
  exact call_isX T J hz hf
theorem ec_isX {i : Nat} {a dd C : Addr} {d : D} {G : V} {cv : Value} {b : Bool} (hg : ClsV G cv) (hk : PySem.W.kitOne K (.ref C) cv = some b) (h : Γ[i]? = some (.dat (.exc a dd d))) (hq : k (.bl b)) : EC K E (tCB (rIsX K a (.ref C) (some dd) C) (tCons (tVar i) (tCons (tC G) tNil))) Γ k kx := fun S0 S σ Q e q x => by
  obtain ⟨v, h1, r⟩ := e.dat i _ h
  unfold Rp at r
  obtain ⟨rfl, w, hw, rw⟩ := r
  refine ⟨_, h1, G, cv, dd, _, b, rfl, hg, rfl, rfl, e.ok.sub _ _ hw, hk, ?_⟩
  exact q S (.bl b) (.bl b) (Gr.refl e.ok) (by unfold Rp; rfl) hq
end
end Z

namespace L2
open PySem PySem.Spec PyProof.Rows
section
variable {X : Cx}
/-! ### xs.count(v), data of any depth -/
def rCountD (K : PySem.W.Frag) : V → List V → Hp → VK → Prop := fun x xs H Q => ∃ (a : Addr) (y : V) (d : PyData) (ds : List PyData), x = V.ref a ∧ xs = [y] ∧ Dp K H (V.ref a) (.list ds) ∧ Dp K H y d ∧
  SeqAt.shaped (.list ds) = true ∧ SeqAt.shaped d = true ∧ Q (.int ((ds.countP fun z => PyData.eqv z d : Nat) : Int)) H
theorem mt_countD (hu : X.A.units + 65 < cLine) : MtR X "list.count" (rCountD X.K) := by
  intro pins s σ H x xs v us Q I rx rxs h
  obtain ⟨a, y, d, ds, rfl, rfl, hl, hy, sl, sd, q⟩ := h
  cases rx
  cases rxs with
  | cons ry rt =>
    rename_i uy ut
    cases rt
    obtain ⟨bs, r1⟩ := Dp.reads I d y uy hy ry
    have hxs : PyData.canLayAll0 ds = true := SeqAt.canLay_of_shaped sl
    have hroom : X.A.units + 1 + min (PyData.depthAll ds) d.depth < cLine := room_in_shaped sd hu
    cases hl with
    | lst hs ha =>
      obtain ⟨its, rv, ⟨⟨cls, dd, data, sls⟩, n, ho, hc, hdn, hdt⟩, hlen⟩ := I.list hs
      simp only at hc hdt
      subst hc hdt
      obtain ⟨as, h4⟩ := Dp.readsAll I ds _ its ha rv
      have hmap : its.map (SeqAt.readOf s.heap) = ds := SeqAt.readsAll_map ds its as hxs h4
      have hcount : its.toArray.toList.countP (fun u => PyData.eqv (SeqAt.readOf s.heap u) d) = ds.countP fun z => PyData.eqv z d := by
        rw [← hmap, List.countP_map]
        rfl
      refine call_meets PySem.F.slot_list_count ⟨_, ho, rfl⟩ PySem.F.entry_list_count (PySem.F.args_list_count_2 _ _)
        (SeqAt.list_countAt a its.toArray n dd sls uy (fun u => PyData.eqv (SeqAt.readOf s.heap u) d)) ⟨ho, SeqAt.items_eqAt (vs := its.toArray) (show ReadsAll s.heap its.toArray.toList ds as from h4) r1 hxs (SeqAt.canLay_of_shaped sd) hroom, ?_⟩
      rw [hcount]
      exact ⟨.int _, H, I.tok _, ⟨_, rfl⟩, q⟩
end
end L2
namespace Z
open PySem PySem.Spec PyProof.Rows L2
theorem mtk_countD (K : PySem.W.Frag) {X : Cx} (hu : X.A.units + 65 < cLine) (hK : X.K = K := by rfl) : MtR X "list.count" (rCountD K) := hK ▸ mt_countD hu
theorem ec_countD {K : PySem.W.Frag} {E : L2.St → XK} {ta tb : TE} {Γ : Ctx} {k : D → Prop} {kx : Addr → D → Prop} (h : EC K E ta Γ (fun l => ∃ ds : List D, l = .lst ds ∧ EC K E tb Γ (fun d => ∃ n, n ≤ 64 ∧ Nice n l ∧ Nice n d ∧ k (.int (((D.pys ds).countP fun z => PyData.eqv z d.py : Nat) : Int))) kx) kx) : EC K E (tBM K "list" (rCountD K) ta (tCons tb tNil)) Γ k kx := fun S0 S σ Q e q x => by
  refine h S0 S σ _ e (fun T w l g r hd => ?_) x
  obtain ⟨ds, rfl, h2⟩ := hd
  obtain ⟨a, xs, rfl, f, r0⟩ : ∃ a xs, w = V.ref a ∧ T.F a = some (.lst xs) ∧ RpL K T ds xs := by
    unfold Rp at r
    exact r
  refine ⟨.inl ⟨rfl, xs, SqL.of (g.ok.sub _ _ f)⟩, ?_⟩
  refine h2 S0 T σ _ (e.gr g) (fun U w d g2 r2 hd => ?_) (x.gr g)
  obtain ⟨n, hn, n1, n2, hk⟩ := hd
  have r3 := Rp.dp g2.ok n1.pl (r.mono g2.le)
  unfold D.py at r3
  have s1 := n1.shaped hn
  unfold D.py at s1
  refine ⟨a, w, d.py, D.pys ds, rfl, rfl, r3, Rp.dp g2.ok n2.pl r2, s1, n2.shaped hn, ?_⟩
  exact q U _ _ (g.trans g2) rpi hk
end Z

/-! enumerate(list, 1); zip of a tuple and a list -/
namespace L2
open PySem PySem.Spec PyProof.Rows
def Ite1 (K : PySem.W.Frag) (a : Addr) : It :=
  ⟨fun i H => ∃ (xs : List V) (x : V), SqL K H a xs ∧ xs[i]? = some x, fun i H v H' => ∃ T x, v = .ref T ∧ H T = none ∧ H' = upd H T (.tup [.int (1 + (i : Int)), x]) ∧ ∀ xs, SqL K H a xs → xs[i]? = some x, fun i H => ∃ xs : List V, SqL K H a xs ∧ xs.length ≤ i⟩
theorem enum_endC {prog : Program} {w : World} {A : Around} {E : Value → Shared → Prop} {s : Shared} {e it l : Addr} {i : Nat} {c : Int} {items : Array Value} {old : Value} {Q : Option Value → Shared → Prop} (hh : A.handled = none)
    (he : IsEnum s.heap e it c old) (hit : s.heap.IsListIter it l i) (hl : s.heap.IsList l items) (hx : items[i]? = none)
    (hQ : ∀ h', Heap.ExtBut it s.heap h' → Q none { s with heap := h' }) : wpAny (model prog w) A (pyNext (.ref e)) Q E s := by
  have hT : s.TypeIs (.ref e) "enumerate" := ⟨_, he, rfl⟩
  unfold pyNext
  refine wpAny_bind (wpAny_attempt (wpAny_callSpecial?_slot (name := Str.ofString "__next__") hT F.slot_enumerate_next
    (wpAny_call_entry F.slot_enumerate_next hT F.entry_enumerate_next ?_ (F.args_enumerate_next_1 _))))
  show wpAny _ _ (field (.ref e) 2 >>= _) _ _ _
  refine wpAny_bind (wpAny_field he rfl (x := .ref it) rfl ?_)
  refine wpAny_bind (wpAny_nextOf_list_end hh hit hl hx fun h' x he' hx' => ?_)
  obtain ⟨o, ho, hc⟩ := hx'
  refine wpAny_bind (wpAny_isInstance (T := "StopIteration") (b := true) ⟨o, ho, hc⟩ isSubtype_stop ?_)
  exact wpAny_pure (hQ _ he')
theorem turn_enum1 {P : Program} {w : World} {K : PySem.W.Frag} {elts : List Expr} {kk : Nat} {tpos : Pos} (a e it : Addr) :
    Turn P w K (.Tuple elts kk tpos) (Ite1 K a) [e, it] e (fun i h => (∃ old, IsEnum h e it (1 + ((i : Nat) : Int)) old) ∧ h.IsListIter it a i ∧ e ≠ it ∧ e ≠ a ∧ a ≠ it) where
  mem := by simp
  obj := fun i h st b hb => by
    obtain ⟨⟨old, he⟩, ⟨o, ho, hc, hd⟩, _⟩ := st
    have e' : b = e ∨ b = it := by simpa using hb
    rcases e' with z | z
    · rw [z]; exact ⟨_, he, fun v q => nomatch q⟩
    · rw [z]; exact ⟨o, ho, fun v q => by rw [hd] at q; cases q⟩
  keep := fun i h h' st k => let ⟨⟨old, he⟩, hi, hne⟩ := st; ⟨⟨old, k e (by simp) _ he⟩, hi.at fun o q => k it (by simp) o q, hne⟩
  item := by
    intro X hP hw hK hc i pins s σ H E I hf st hg
    subst hP hw hK
    obtain ⟨⟨old, he⟩, hit, hne, hea, hai⟩ := st
    obtain ⟨xs, x, hq, hx⟩ := hg
    obtain ⟨its, rv, p, hz⟩ := I.list hq
    obtain ⟨u, hu, ru⟩ := rv.get hx
    have hel : e < s.heap.objs.size := Heap.lt_size he
    have hil : it < s.heap.objs.size := by obtain ⟨_, q, _⟩ := hit; exact Heap.lt_size q
    have D := Draws.list (prog := X.prog) (w := X.w) (A := X.A.in1) (I.ok.hd hc) it a hai its.toArray
    have hsz : i < its.toArray.size := by
      have := (List.getElem?_eq_some_iff.mp hu).1
      simpa using this
    refine wpAny_pyNext_enum_itemC D he ⟨hit, p.isList⟩ hsz hne (by simp [hne, hea]) fun x' h' tk hP ho hst hT hsz' hk => ?_
    obtain rfl : u = x' := by
      have : its[i]? = some x' := by simpa using hP
      rw [hu] at this
      exact Option.some.inj this
    refine ⟨_, rfl, wpAny_letOwnedTupleGo_enum (s := { s with heap := h', toks := tk + 1 }) ho fun h'' he' sb => ?_⟩
    have hT2 : h''.get? s.heap.objs.size = some { cls := .type "tuple", data := .seq #[.int (1 + (i : Int)) tk, u] } := (sb.2 _ (Nat.ne_of_gt hel)).trans hT
    have new : ObjOk X.prog X.w (upd H s.heap.objs.size (.tup [.int (1 + (i : Int)), x])) h'' s.heap.objs.size (.tup [.int (1 + (i : Int)), x]) :=
      ⟨by show 2 ≤ sizeLine; decide, [.int (1 + (i : Int)) tk, u], .cons ⟨_, rfl⟩ (.cons ru .nil), ⟨_, hT2, rfl, _, rfl⟩⟩
    have I1 : Inv X pins σ (upd H s.heap.objs.size (.tup [.int (1 + (i : Int)), x])) { s with heap := h'', toks := tk + 1 } :=
      I.turnedNew (ch := [e, it]) (fun b ob hb q => (sb.2 b (fun z => hb (by simp [z]))).trans (hk b ob (fun z => hb (by simp [z])) (fun z => hb (by simp [z])) q)) hf (Nat.le_refl _) new
    refine ⟨.ref s.heap.objs.size, _, I1, rfl, ⟨_, x, rfl, I.hok.fresh (Nat.le_refl _), rfl, fun ys hy => by rw [I.list_inj hy hq]; exact hx⟩, ⟨⟨u, ?_⟩, hst.1.at fun o q => (sb.2 it (Ne.symm hne)).trans q, hne, hea, hai⟩, fun b hb => ?_⟩
    · have e1 : 1 + ((i + 1 : Nat) : Int) = 1 + (i : Int) + 1 := by omega
      rw [e1]; exact he'
    · have hb' : b < s.heap.objs.size := by
        have e' : b = e ∨ b = it := by simpa using hb
        rcases e' with z | z
        · rw [z]; exact hel
        · rw [z]; exact hil
      rw [upd_ne (Nat.ne_of_lt hb')]
      exact (hf b hb).1
  done := by
    intro X hP hw hK hc i pins s σ H E I hf st hg
    subst hP hw hK
    obtain ⟨⟨old, he⟩, hit, hne, hea, hai⟩ := st
    obtain ⟨xs, hq, hx⟩ := hg
    obtain ⟨its, rv, p, hz⟩ := I.list hq
    obtain ⟨f0, f1, f2, f3, f4, f5⟩ := hf it (by simp)
    have hl := rv.length
    exact enum_endC (I.ok.hd hc) he hit p.isList (by simp; omega) fun h' eb => ⟨rfl, I.turned (t' := s.toks) (fun b o hb q => eb b o hb q) f0 f1 f3 f4 f5⟩
  self := fun A i s Q E st h => let ⟨⟨_, he⟩, _⟩ := st; wpAny_pyIter_enum he h
def iEnum1 (K : PySem.W.Frag) (ta : TA) : TI := fun σ H R => ta σ H fun vs H1 => ∃ a xs, vs = [.ref a, .int 1] ∧ SqL K H1 a xs ∧ R (Ite1 K a) H1
theorem pi_enum1 {X : Cx} {e e2 : Expr} {ta : TA} {p pos tpos : Pos} {elts : List Expr} {kk : Nat} (hg : Gl X "enumerate") (hm : X.mg "enumerate" = none) (ha : PA X [e, e2] ta)
    (hs : starEach [e, e2] X.env = (false, eval e X.env) :: starEach [e2] X.env := by rfl) (hpl : (backTo pos (starEach [e2] X.env)).any (·.1) = false := by rfl) :
    PI X (.Tuple elts kk tpos) (.Call (.Name "enumerate" p) [e, e2] [] pos) (iEnum1 X.K ta) := by
  refine ⟨fun pins s σ H R I h => ?_⟩
  refine Call_ (ld_blt I hg hm boot_enumerate (PyProof.Rows.callWith_type1 (thn (ha.run pos pins s σ H _ I h) fun us s1 ⟨vs, H1, I1, r1, q1⟩ => ?_) hs hpl))
  obtain ⟨a, xs, ex, hq, q⟩ := q1
  subst ex
  cases r1 with
  | cons r rr =>
    cases rr with
    | cons r' rr =>
      cases rr
      cases r
      obtain ⟨t, rfl⟩ := r'
      obtain ⟨its, rv, p', hz⟩ := I1.list hq
      have hal : a < s1.heap.objs.size := p'.lt
      refine enum_begins (begins_list a its.toArray) p'.isList (by decide) (by decide) fun h' he hit hsz hk => wpAny_pyIter_enum he ?_
      have I2 : Inv X pins σ H1 { s1 with heap := h' } := I1.kept (t' := s1.toks) hk
      refine ⟨s1.heap.objs.size + 1, [s1.heap.objs.size + 1, s1.heap.objs.size], _, _, H1, rfl, I2, turn_enum1 a (s1.heap.objs.size + 1) s1.heap.objs.size, ⟨⟨.none, he⟩, ⟨_, hit, rfl, rfl⟩, Nat.succ_ne_self _, Nat.ne_of_gt (Nat.lt_succ_of_lt hal), Nat.ne_of_lt hal⟩, fun b hb => ?_, q⟩
      have e' : b = s1.heap.objs.size + 1 ∨ b = s1.heap.objs.size := by simpa using hb
      have hle : s1.heap.objs.size ≤ b := by
        rcases e' with z | z
        · rw [z]; exact Nat.le_add_right _ _
        · rw [z]; exact Nat.le_refl _
      exact I1.fpOk hle (I1.hok.fresh hle)
/-- the tuple at a and the list at b, the items in new pairs -/
def ItzM (K : PySem.W.Frag) (a b : Addr) : It :=
  ⟨fun i H => ∃ (xs ys : List V) (x y : V), SqT K H a xs ∧ SqL K H b ys ∧ xs[i]? = some x ∧ ys[i]? = some y,
    fun i H v H' => ∃ T x y, v = .ref T ∧ H T = none ∧ H' = upd H T (.tup [x, y]) ∧ (∀ xs, SqT K H a xs → xs[i]? = some x) ∧ ∀ ys, SqL K H b ys → ys[i]? = some y,
    fun i H => ∃ xs ys : List V, SqT K H a xs ∧ SqL K H b ys ∧ (xs.length ≤ i ∨ ys.length ≤ i)⟩
section
variable {prog : Program} {w : World} {A : Around} {E : Value → Shared → Prop} {s : Shared}
theorem zipM_next_end {z TI TO i1 i2 l1 l2 : Addr} {k1 k2 : Nat} {xs ys : Array Value} {a b : Value} {Q : Fin → Shared → Prop} (hh : A.handled = none) (D : ZipSep2 z TI TO i1 i2 [i1, l1] [i2, l2]) (ha : l1 ≠ i1) (hb : l2 ≠ i2)
    (hz : IsZip s.heap z TI TO .none) (hTI : IsPair s.heap TI (.ref i1) (.ref i2)) (hTO : IsPair s.heap TO a b)
    (h1 : s.heap.IsTupleIter i1 l1 k1) (h2 : s.heap.IsListIter i2 l2 k2) (hl1 : s.heap.IsTuple l1 xs) (hl2 : s.heap.IsList l2 ys) (hend : xs[k1]? = none ∨ ys[k2]? = none)
    (hE : ∀ h' e, (∀ c o, c ≠ z → c ≠ TO → c ≠ i1 → c ≠ i2 → s.heap.get? c = some o → h'.get? c = some o) → (∃ o, h'.get? e = some o ∧ o.cls = .type "StopIteration") → E (.ref e) { s with heap := h' }) :
    wpAny (model prog w) A (Builtin.«zip.__next__» ⟨[.ref z], []⟩) Q E s := by
  have i1z : i1 ≠ z := fun e => D.zi1 e.symm
  have i2z : i2 ≠ z := fun e => D.zi2 e.symm
  have l1z : l1 ≠ z := fun e => D.zf1 (by rw [← e]; simp)
  have l2z : l2 ≠ z := fun e => D.zf2 (by rw [← e]; simp)
  have TOi1 : TO ≠ i1 := D.Ti1
  have TOi2 : TO ≠ i2 := D.Ti2
  have l2TO : l2 ≠ TO := fun e => D.Tf2 (by rw [← e]; simp)
  have i12 : i1 ≠ i2 := fun e => D.sep1_2 (by rw [e]; simp)
  have l2i1 : l2 ≠ i1 := fun e => D.sep1_2 (by rw [← e]; simp)
  show wpAny _ _ (field (.ref z) 2 >>= _) _ _ _
  refine wpAny_bind (wpAny_field hz rfl (x := .bool false) rfl ?_)
  show wpAny _ _ (field (.ref z) 3 >>= _) _ _ _
  refine wpAny_bind (wpAny_field hz rfl (x := .ref TI) rfl ?_)
  refine wpAny_bind (wpAny_seqItems hTI rfl ?_)
  show wpAny _ _ (Builtin.SmallTypes.ownedTupleIsFree (.ref z) >>= _) _ _ _
  refine wpAny_bind ?_
  unfold Builtin.SmallTypes.ownedTupleIsFree
  refine wpAny_bind (wpAny_field hz rfl (x := .none) rfl (wpAny_pure ?_))
  simp only [if_true]
  refine wpAny_bind (wpAny_rule ?_)
  refine wpAny_bind (wpAny_field hz rfl (x := .ref TO) rfl ?_)
  refine wpAny_bind (wpAny_setField_rec hz (by simp) fun h₁ hz₁ hs₁ => ?_)
  replace hz₁ : IsZip h₁ z TI TO .ellipsis := hz₁
  refine wpAny_bind ?_
  simp only [List.zipIdx_cons, List.zipIdx_nil, List.forIn_cons, List.forIn_nil]
  refine wpAny_bind (wpAny_bind (wpAny_onRaise ?_))
  show wpAny _ _ (Builtin.SmallTypes.nextOf (.ref i1) >>= _) _ _ _
  cases hx : xs[k1]? with
  | none =>
    refine wpAny_bind (RZ.nextOf_tuple_end hh (h1.extBut hs₁.extBut i1z) (hl1.extBut hs₁.extBut l1z) hx fun h₂ e hs₂ he => ?_)
    obtain ⟨oe, hoe, hce⟩ := he
    have hz₂ : IsZip h₂ z TI TO .ellipsis := hs₂ _ _ i1z.symm hz₁
    have hez : e ≠ z := fun x => by subst x; rw [hz₂] at hoe; cases hoe; simp at hce
    refine wpAny_setField_rec hz₂ (by simp) fun h₃ _ hs₃ => hE h₃ e (fun c o c1 _ c3 _ x => hs₃.extBut _ _ c1 (hs₂ _ _ c3 (hs₁.extBut _ _ c1 x))) ⟨oe, hs₃.extBut _ _ hez hoe, hce⟩
  | some x =>
    have hy : ys[k2]? = none := by rcases hend with h | h; rw [hx] at h; cases h; exact h
    refine wpAny_bind (RZ.nextOf_tuple_item (h1.extBut hs₁.extBut i1z) (hl1.extBut hs₁.extBut l1z) hx fun h₂ h1₂ hs₂ => wpAny_pure ?_)
    have hTO₂ : IsPair h₂ TO a b := hs₂.extBut _ _ TOi1 (hs₁.extBut _ _ D.TOz hTO)
    refine wpAny_bind (wpAny_seqItems hTO₂ rfl ?_)
    refine wpAny_bind (wpAny_updateSeq_pair hTO₂ fun h₃ hTO₃ hs₃ => ?_)
    refine wpAny_bind (wpAny_letGo (wpAny_pure ?_))
    refine wpAny_bind (wpAny_bind (wpAny_onRaise ?_))
    show wpAny _ _ (Builtin.SmallTypes.nextOf (.ref i2) >>= _) _ _ _
    refine wpAny_bind (wpAny_nextOf_list_end hh (((h2.extBut hs₁.extBut i2z).extBut hs₂.extBut i12.symm).extBut hs₃.extBut TOi2.symm)
      (((hl2.extBut hs₁.extBut l2z).extBut hs₂.extBut l2i1).extBut hs₃.extBut l2TO) hy fun h₄ e hs₄ he => ?_)
    obtain ⟨oe, hoe, hce⟩ := he
    have hz₄ : IsZip h₄ z TI TO .ellipsis := hs₄ _ _ i2z.symm (hs₃.extBut _ _ D.TOz.symm (hs₂.extBut _ _ i1z.symm hz₁))
    have hez : e ≠ z := fun x => by subst x; rw [hz₄] at hoe; cases hoe; simp at hce
    refine wpAny_setField_rec hz₄ (by simp) fun h₅ _ hs₅ => hE h₅ e (fun c o c1 c2 c3 c4 x => hs₅.extBut _ _ c1 (hs₄ _ _ c4 (hs₃.extBut _ _ c2 (hs₂.extBut _ _ c3 (hs₁.extBut _ _ c1 x))))) ⟨oe, hs₅.extBut _ _ hez hoe, hce⟩
theorem pyNext_zipM_end {z TI TO i1 i2 l1 l2 : Addr} {k1 k2 : Nat} {xs ys : Array Value} {a b : Value} {Q : Option Value → Shared → Prop} (hh : A.handled = none) (D : ZipSep2 z TI TO i1 i2 [i1, l1] [i2, l2]) (ha : l1 ≠ i1) (hb : l2 ≠ i2)
    (hz : IsZip s.heap z TI TO .none) (hTI : IsPair s.heap TI (.ref i1) (.ref i2)) (hTO : IsPair s.heap TO a b)
    (h1 : s.heap.IsTupleIter i1 l1 k1) (h2 : s.heap.IsListIter i2 l2 k2) (hl1 : s.heap.IsTuple l1 xs) (hl2 : s.heap.IsList l2 ys) (hend : xs[k1]? = none ∨ ys[k2]? = none)
    (hQ : ∀ h', (∀ c o, c ≠ z → c ≠ TO → c ≠ i1 → c ≠ i2 → s.heap.get? c = some o → h'.get? c = some o) → Q none { s with heap := h' }) : wpAny (model prog w) A (pyNext (.ref z)) Q E s := by
  have hT : s.TypeIs (.ref z) "zip" := ⟨_, hz, rfl⟩
  unfold pyNext
  refine wpAny_bind (wpAny_attempt (wpAny_callSpecial?_slot (name := Str.ofString "__next__") hT F.slot_zip_next
    (wpAny_call_entry F.slot_zip_next hT F.entry_zip_next (zipM_next_end hh D ha hb hz hTI hTO h1 h2 hl1 hl2 hend fun h' e hk he => ?_) (F.args_zip_next_1 _))))
  obtain ⟨o, ho, hc⟩ := he
  refine wpAny_bind (wpAny_isInstance (T := "StopIteration") (b := true) ⟨o, ho, hc⟩ isSubtype_stop ?_)
  exact wpAny_pure (hQ _ hk)
end
theorem turn_zipM {P : Program} {w : World} {K : PySem.W.Frag} {elts : List Expr} {kk : Nat} {tpos : Pos} {a b z TI TO i1 i2 : Addr} (D : ZipSep2 z TI TO i1 i2 [i1, a] [i2, b]) (ha : a ≠ i1) (hb : b ≠ i2) :
    Turn P w K (.Tuple elts kk tpos) (ItzM K a b) [z, TI, TO, i1, i2] z (fun i h => IsZip h z TI TO .none ∧ IsTupOf2 h TI (.ref i1) (.ref i2) ∧ (∃ x y, IsTupOf2 h TO x y) ∧ h.IsTupleIter i1 a i ∧ h.IsListIter i2 b i) where
  mem := by simp
  obj := fun i h st c hc => by
    obtain ⟨hz, hTI, ⟨x, y, hTO⟩, ⟨o1, e1, _, d1⟩, ⟨o2, e2, _, d2⟩⟩ := st
    have e' : c = z ∨ c = TI ∨ c = TO ∨ c = i1 ∨ c = i2 := by simpa using hc
    rcases e' with q | q | q | q | q
    · rw [q]; exact ⟨_, hz, fun v q => nomatch q⟩
    · rw [q]; exact ⟨_, hTI, fun v q => nomatch q⟩
    · rw [q]; exact ⟨_, hTO, fun v q => nomatch q⟩
    · rw [q]; exact ⟨o1, e1, fun v q => by rw [d1] at q; cases q⟩
    · rw [q]; exact ⟨o2, e2, fun v q => by rw [d2] at q; cases q⟩
  keep := fun i h h' st k => by
    obtain ⟨hz, hTI, ⟨x, y, hTO⟩, h1, h2⟩ := st
    exact ⟨k z (by simp) _ hz, k TI (by simp) _ hTI, ⟨x, y, k TO (by simp) _ hTO⟩, h1.at fun o q => k i1 (by simp) o q, h2.at fun o q => k i2 (by simp) o q⟩
  item := by
    intro X hP hw hK hc i pins s σ H E I hf st hg
    subst hP hw hK
    obtain ⟨hz, hTI, ⟨x0, y0, hTO⟩, h1, h2⟩ := st
    obtain ⟨xs, ys, x, y, hqx, hqy, hx, hy⟩ := hg
    obtain ⟨its, rv, p, _⟩ := I.tuple hqx
    obtain ⟨its2, rv2, p2, _⟩ := I.list hqy
    obtain ⟨u, hu, ru⟩ := rv.get hx
    obtain ⟨u2, hu2, ru2⟩ := rv2.get hy
    have hzl : z < s.heap.objs.size := Heap.lt_size hz
    have D1 := Draws.tuple (prog := X.prog) (w := X.w) (A := X.A.in1) (I.ok.hd hc) i1 a ha its.toArray
    have D2 := Draws.list (prog := X.prog) (w := X.w) (A := X.A.in1) (I.ok.hd hc) i2 b hb its2.toArray
    have hs1 : i < its.toArray.size := by have := (List.getElem?_eq_some_iff.mp hu).1; simpa using this
    have hs2 : i < its2.toArray.size := by have := (List.getElem?_eq_some_iff.mp hu2).1; simpa using this
    refine wpAny_pyNext_zipD2_item D D1 D2 hz hTI hTO ⟨h1, p⟩ ⟨h2, p2.isList⟩ hs1 hs2 fun x1 x2 h' tk hP1 hP2 z' TO' st1' st2' hT hsz hk => ?_
    obtain rfl : u = x1 := by
      have : its[i]? = some x1 := by simpa using hP1
      rw [hu] at this
      exact Option.some.inj this
    obtain rfl : u2 = x2 := by
      have : its2[i]? = some x2 := by simpa using hP2
      rw [hu2] at this
      exact Option.some.inj this
    have i1z : i1 ≠ z := fun e => D.zi1 e.symm
    have i2z : i2 ≠ z := fun e => D.zi2 e.symm
    refine ⟨_, rfl, wpAny_letOwnedTupleGo_zip (s := { s with heap := h', toks := tk }) z' fun h'' z'' sb => ?_⟩
    have hT2 : h''.get? s.heap.objs.size = some { cls := .type "tuple", data := .seq #[u, u2] } := (sb.2 _ (Nat.ne_of_gt hzl)).trans hT
    have new : ObjOk X.prog X.w (upd H s.heap.objs.size (.tup [x, y])) h'' s.heap.objs.size (.tup [x, y]) :=
      ⟨by show 2 ≤ sizeLine; decide, [u, u2], .cons ru (.cons ru2 .nil), ⟨_, hT2, rfl, _, rfl⟩⟩
    have I1 : Inv X pins σ (upd H s.heap.objs.size (.tup [x, y])) { s with heap := h'', toks := tk } :=
      I.turnedNew (t' := tk) (ch := [z, TI, TO, i1, i2]) (fun c o hb q => (sb.2 c (fun q' => hb (by simp [q']))).trans (hk c o (fun q' => hb (by simp [q'])) (fun q' => hb (by simp [q'])) (fun q' => hb (by simp [q'])) (fun q' => hb (by simp [q'])) q)) hf (Nat.le_refl _) new
    refine ⟨.ref s.heap.objs.size, _, I1, rfl, ⟨_, x, y, rfl, I.hok.fresh (Nat.le_refl _), rfl, fun l hl => by rw [I.tuple_inj hl hqx]; exact hx, fun l hl => by rw [I.list_inj hl hqy]; exact hy⟩, ⟨z'', ?_, ⟨u, u2, ?_⟩, ?_, ?_⟩, fun c hcm => ?_⟩
    · exact (sb.2 _ D.TIz).trans (hk _ _ D.TIz D.TITO D.TIi1 D.TIi2 hTI)
    · exact (sb.2 _ D.TOz).trans TO'
    · exact st1'.1.at fun o q => (sb.2 _ i1z).trans q
    · exact st2'.1.at fun o q => (sb.2 _ i2z).trans q
    · have hlt : c < s.heap.objs.size := by
        have e' : c = z ∨ c = TI ∨ c = TO ∨ c = i1 ∨ c = i2 := by simpa using hcm
        rcases e' with q | q | q | q | q
        · rw [q]; exact hzl
        · rw [q]; exact Heap.lt_size hTI
        · rw [q]; exact Heap.lt_size hTO
        · rw [q]; obtain ⟨_, e1, _⟩ := h1; exact Heap.lt_size e1
        · rw [q]; obtain ⟨_, e2, _⟩ := h2; exact Heap.lt_size e2
      rw [upd_ne (Nat.ne_of_lt hlt)]
      exact (hf c hcm).1
  done := by
    intro X hP hw hK hc i pins s σ H E I hf st hg
    subst hP hw hK
    obtain ⟨hz, hTI, ⟨x0, y0, hTO⟩, h1, h2⟩ := st
    obtain ⟨xs, ys, hqx, hqy, hend⟩ := hg
    obtain ⟨its, rv, p, _⟩ := I.tuple hqx
    obtain ⟨its2, rv2, p2, _⟩ := I.list hqy
    have l1 := rv.length
    have l2 := rv2.length
    have he : its.toArray[i]? = none ∨ its2.toArray[i]? = none := by
      rcases hend with q | q
      · exact .inl (by simp; omega)
      · exact .inr (by simp; omega)
    exact pyNext_zipM_end (I.ok.hd hc) D ha hb hz hTI hTO h1 h2 p p2.isList he fun h' hk => ⟨rfl, I.turnedL (t' := s.toks) (ch := [z, TI, TO, i1, i2]) (fun c o hb q =>
      hk c o (fun q' => hb (by simp [q'])) (fun q' => hb (by simp [q'])) (fun q' => hb (by simp [q'])) (fun q' => hb (by simp [q'])) q) hf⟩
  self := fun A i s Q E st h => wpAny_pyIter_zip st.1 h
def iZipM (K : PySem.W.Frag) (ta : TA) : TI := fun σ H R => ta σ H fun vs H1 => ∃ a b xs ys, vs = [.ref a, .ref b] ∧ SqT K H1 a xs ∧ SqL K H1 b ys ∧ R (ItzM K a b) H1
theorem pi_zipM {X : Cx} {e e2 : Expr} {ta : TA} {p pos tpos : Pos} {elts : List Expr} {kk : Nat} (hg : Gl X "zip") (hm : X.mg "zip" = none) (ha : PA X [e, e2] ta)
    (hs : starEach [e, e2] X.env = (false, eval e X.env) :: starEach [e2] X.env := by rfl) (hpl : (backTo pos (starEach [e2] X.env)).any (·.1) = false := by rfl) :
    PI X (.Tuple elts kk tpos) (.Call (.Name "zip" p) [e, e2] [] pos) (iZipM X.K ta) := by
  refine ⟨fun pins s σ H R I h => ?_⟩
  refine Call_ (ld_blt I hg hm PyProof.Rows.boot_zip (PyProof.Rows.callWith_type1 (thn (ha.run pos pins s σ H _ I h) fun us s1 ⟨vs, H1, I1, r1, q1⟩ => ?_) hs hpl))
  obtain ⟨a, b, xs, ys, ex, hqx, hqy, q⟩ := q1
  subst ex
  cases r1 with
  | cons r rr =>
    cases rr with
    | cons r' rr =>
      cases rr
      cases r
      cases r'
      obtain ⟨its, rv, p1, _⟩ := I1.tuple hqx
      obtain ⟨its2, rv2, p2, _⟩ := I1.list hqy
      obtain ⟨o1, ho1, _⟩ := id p1
      have la : a < s1.heap.objs.size := Heap.lt_size ho1
      have lb : b < s1.heap.objs.size := p2.lt
      refine zip_begins2 (begins_tuple a its.toArray) (begins_list b its2.toArray) p1 p2.isList fun h' hz hTI hTO h1 h2 hsz hk => wpAny_pyIter_zip hz ?_
      have I2 : Inv X pins σ H1 { s1 with heap := h' } := I1.kept (t' := s1.toks) hk
      refine ⟨s1.heap.objs.size + 4, [s1.heap.objs.size + 4, s1.heap.objs.size + 2, s1.heap.objs.size + 3, s1.heap.objs.size, s1.heap.objs.size + 1], _, _, H1, rfl, I2, turn_zipM (zip_sep2 (N := s1.heap.objs.size) (fp1 := [a]) (fp2 := [b]) (fun c hc => by rw [List.mem_singleton.mp hc]; exact la) (fun c hc => by rw [List.mem_singleton.mp hc]; exact lb)) (Nat.ne_of_lt la) (Nat.ne_of_lt (Nat.lt_succ_of_lt lb)), ⟨hz, hTI, ⟨_, _, hTO⟩, ⟨_, h1, rfl, rfl⟩, ⟨_, h2, rfl, rfl⟩⟩, fun c hcm => ?_, q⟩
      have e' : c = s1.heap.objs.size + 4 ∨ c = s1.heap.objs.size + 2 ∨ c = s1.heap.objs.size + 3 ∨ c = s1.heap.objs.size ∨ c = s1.heap.objs.size + 1 := by simpa using hcm
      have hle : s1.heap.objs.size ≤ c := by
        rcases e' with z | z | z | z | z
        · rw [z]; exact Nat.le_add_right _ _
        · rw [z]; exact Nat.le_add_right _ _
        · rw [z]; exact Nat.le_add_right _ _
        · rw [z]; exact Nat.le_refl _
        · rw [z]; exact Nat.le_add_right _ _
      exact I1.fpOk hle (I1.hok.fresh hle)
end L2
namespace Z
open PySem PySem.Spec PyProof.Rows L2
section
variable {X : Cx} {K : PySem.W.Frag} {e e2 : Expr} {ta : TA} {p pos tpos : Pos} {elts : List Expr} {kk : Nat}
theorem kpi_enum1 (K : PySem.W.Frag) (hg : Gl X "enumerate") (hm : X.mg "enumerate" = none) (ha : PA X [e, e2] ta) (hs : starEach [e, e2] X.env = (false, eval e X.env) :: starEach [e2] X.env := by rfl) (hpl : (backTo pos (starEach [e2] X.env)).any (·.1) = false := by rfl) (hK : X.K = K := by rfl) :
    PI X (.Tuple elts kk tpos) (.Call (.Name "enumerate" p) [e, e2] [] pos) (iEnum1 K ta) := hK ▸ pi_enum1 hg hm ha hs hpl
theorem kpi_zipM (K : PySem.W.Frag) (hg : Gl X "zip") (hm : X.mg "zip" = none) (ha : PA X [e, e2] ta) (hs : starEach [e, e2] X.env = (false, eval e X.env) :: starEach [e2] X.env := by rfl) (hpl : (backTo pos (starEach [e2] X.env)).any (·.1) = false := by rfl) (hK : X.K = K := by rfl) :
    PI X (.Tuple elts kk tpos) (.Call (.Name "zip" p) [e, e2] [] pos) (iZipM K ta) := hK ▸ pi_zipM hg hm ha hs hpl
end
section
variable {K : PySem.W.Frag} {E : L2.St → XK} {S0 S T : Wd} {σ : L2.St} {Γ : Ctx} {al : TA} {kx : Addr → D → Prop} {kl : List D → Prop}
theorem ei_enum1 (h : EA K E al Γ (fun l => ∃ ds, l = [.lst ds, .int 1] ∧ kl (ds.zipIdx.map fun p => D.tup [.int (1 + (p.2 : Int)), p.1])) kx) : EI K E (iEnum1 K al) Γ kl kx := fun S0 S σ R e q x =>
  h S0 S σ _ e (fun T vs l g r ⟨ds, el, kd⟩ => by
    subst el
    obtain ⟨y, ys, rfl, r1, r2⟩ := r.cons_inv
    obtain ⟨y2, ys2, rfl, r3, r4⟩ := r2.cons_inv
    cases r4.nil_inv
    cases r3.int
    unfold Rp at r1
    obtain ⟨a, xs, rfl, f, r⟩ := r1
    have hl := r.length
    refine ⟨a, xs, rfl, SqL.of (g.ok.sub _ _ f), q T _ _ g ⟨fun U i ok l hi => ?_, fun U i x H' ok l hi y => ?_, fun U i ok l hi => ?_⟩ kd⟩
    · have hx : i < xs.length := by
        rw [hl]
        simpa using hi
      exact ⟨xs, xs[i], SqL.of (ok.sub _ _ (l.fz _ _ f)), List.getElem?_eq_getElem hx⟩
    · obtain ⟨p, v, rfl, hn, rfl, hy⟩ := y
      have q := hy xs (SqL.of (ok.sub _ _ (l.fz _ _ f)))
      obtain ⟨d, e, rd⟩ := r.getV q
      obtain ⟨U', e1, g1, r1⟩ := pair_new (K := K) (d := .int (1 + (i : Int))) (e := d) (x := .int (1 + (i : Int))) ok hn (by unfold Rp; rfl) (rd.mono l)
      refine ⟨U', _, e1, g1, ?_, r1⟩
      rw [List.getElem?_map, List.getElem?_zipIdx, e]
      simp
    · exact ⟨xs, SqL.of (ok.sub _ _ (l.fz _ _ f)), by rw [hl]; simpa using hi⟩) x
theorem ei_zipM (h : EA K E al Γ (fun l => ∃ ds es, l = [.tup ds, .lst es] ∧ kl ((ds.zip es).map fun p => D.tup [p.1, p.2])) kx) : EI K E (iZipM K al) Γ kl kx := fun S0 S σ R e q x =>
  h S0 S σ _ e (fun T vs l g r ⟨ds, es, el, kd⟩ => by
    subst el
    obtain ⟨y, ys, rfl, r1, r2⟩ := r.cons_inv
    obtain ⟨z, zs, rfl, r3, r4⟩ := r2.cons_inv
    cases r4.nil_inv
    unfold Rp at r1 r3
    obtain ⟨a, xs, rfl, f, rx⟩ := r1
    obtain ⟨b, ys, rfl, f', r'⟩ := r3
    have hl := rx.length
    have hl' := r'.length
    have hq : ∀ {U : Wd}, U.Ok → Le T U → SqT K U.H a xs := fun ok l => sqt_mono ok.sub (sqt_mono l.fz f)
    have hq' : ∀ {U : Wd}, U.Ok → Le T U → SqL K U.H b ys := fun ok l => SqL.of (ok.sub _ _ (l.fz _ _ f'))
    refine ⟨a, b, xs, ys, rfl, hq g.ok (Le.refl T), hq' g.ok (Le.refl T), q T _ _ g ⟨fun U i ok l hi => ?_, fun U i x H' ok l hi y => ?_, fun U i ok l hi => ?_⟩ kd⟩
    · have hm : i < min ds.length es.length := by simpa using hi
      have hx : i < xs.length := by omega
      have hy : i < ys.length := by omega
      exact ⟨xs, ys, xs[i], ys[i], hq ok l, hq' ok l, List.getElem?_eq_getElem hx, List.getElem?_eq_getElem hy⟩
    · obtain ⟨p, v, w, rfl, hn, rfl, hv, hw⟩ := y
      have q1 := hv xs (hq ok l)
      have q2 := hw ys (hq' ok l)
      obtain ⟨d, e1, rd⟩ := rx.getV q1
      obtain ⟨d2, e2, rd2⟩ := r'.getV q2
      obtain ⟨U', e3, g1, r5⟩ := pair_new (K := K) (d := d) (e := d2) (x := v) ok hn (rd.mono l) (rd2.mono l)
      refine ⟨U', _, e3, g1, ?_, r5⟩
      have hz : (ds.zip es)[i]? = some (d, d2) := List.getElem?_zip_eq_some.mpr ⟨e1, e2⟩
      rw [List.getElem?_map, hz]
      rfl
    · have hm : min ds.length es.length ≤ i := by simpa using hi
      exact ⟨xs, ys, hq ok l, hq' ok l, by omega⟩) x
end
end Z

/-! word, *rest = a tuple -/
namespace L2
open PySem PySem.Spec PySem.Calls PyProof.Rows PySem.W
section
variable {prog : Program} {w : World} {A : Around} {E : Value → Shared → Prop} {s : Shared}
theorem star_tupT {l : Addr} {items : Array Value} {Q : List Value → Shared → Prop} (hl : IsTup s.heap l items) (hh : A.handled = none) (hn : 1 ≤ items.size) (hz : items.size ≤ 16384)
    (h : ∀ (h2 : Heap) tk, (∀ b o, s.heap.get? b = some o → h2.get? b = some o) → Q (items.toList.take 1 ++ [.ref h2.objs.size]) { s with heap := h2.push { cls := .type "list", data := .seq (items.toList.drop 1).toArray }, toks := tk }) :
    wpAny (model prog w) A (unpackItems (.ref l) 2 (some 1)) Q E s := by
  have hlt : l ≠ s.heap.objs.size := by obtain ⟨o, ho, _⟩ := hl; exact Nat.ne_of_lt (Heap.lt_size ho)
  unfold unpackItems
  refine wpAny_bind ?_
  unfold notIterableAtAll
  refine wpAny_bind (wpAny_specialOf hl.typeIs slot_tuple_iter.lookup ?_)
  refine wpAny_pure ?_
  simp only [Bool.false_eq_true, if_false]
  refine wpAny_bind (wpAny_holding (iter_tuple hl ?_))
  refine wpAny_bind (wpAny_holding (draw_tuple hlt 1 0 _ _ ⟨_, Heap.get?_push_size _ rfl, rfl, rfl⟩ (hl.push _) (by omega) fun h₁ hit₁ hs₁ => ?_))
  have hl₁ : IsTup h₁ l items := (hl.push _).extBut hs₁.extBut hlt
  rw [Nat.zero_add] at hit₁
  have hit₁' := hit₁
  obtain ⟨oi, hoi, _⟩ := hit₁'
  have hl₁' := hl₁
  obtain ⟨ol, hol, _⟩ := hl₁'
  rw [List.drop_zero]
  have hfl : (items.toList.take 1).length = 1 := by rw [List.length_take, Array.length_toList]; omega
  rw [if_neg (show ¬ ((items.toList.take 1).length < 1) by rw [hfl]; omega)]
  refine wpAny_bind (wpAny_holding (kun_collect (s := { s with heap := h₁ }) (T := "tuple_iterator") (.inr (.inr (.inr rfl))) (Walks.tuple (A := A.in1) hh s.heap.objs.size l hlt items) (fun j u st => st.1.typeIs) (k := 1) (by omega) ⟨hit₁, hl₁⟩ (Heap.lt_size hoi) (Heap.lt_size hol) (fun h₂ tk hk => ?_) (by rw [sizeLine_eq]; omega)))
  have hrl : (items.toList.drop 1).length = items.size - 1 := by rw [List.length_drop, Array.length_toList]
  show wpAny _ _ (if (items.toList.drop 1).length < 0 then _ else _) _ _ _
  rw [if_neg (by omega)]
  show wpAny _ _ (newList ((items.toList.drop 1).take ((items.toList.drop 1).length - 0)) >>= fun d => pure (items.toList.take 1 ++ [d] ++ (items.toList.drop 1).drop ((items.toList.drop 1).length - 0))) _ _ _
  rw [Nat.sub_zero, List.take_length, List.drop_length]
  have he : ∀ b o, s.heap.get? b = some o → h₂.get? b = some o := fun b o e => by
    have hb : b ≠ s.heap.objs.size := Nat.ne_of_lt (Heap.lt_size e)
    exact hk b o hb (hs₁.extBut b o hb (Heap.get?_push_of_some _ e))
  exact wpAny_bind (PySem.wpAny_newList (s := { s with heap := h₂, toks := tk }) (wpAny_pure (by rw [List.append_nil]; exact h h₂ tk he)) (by rw [hrl, sizeLine_eq]; omega))
end
def gStar (K : PySem.W.Frag) (t : TGs) : TG := fun v σ H Q => ∃ a x xs, v = .ref a ∧ SqT K H a (x :: xs) ∧ xs.length ≤ 1000 ∧ ∀ p, H p = none → t [x, .ref p] σ (upd H p (.lst xs)) Q
section
variable {X : Cx} {pos : Pos}
theorem pg_star {a b : Expr} {p : Pos} {k : Nat} {t : TGs} (hc : X.calm = true) (h : PGs X [a, b] t)
    (hn : (assignEach [a, .Starred b p] X.env).length = 2 := by rfl) (hst : (assignEach [a, .Starred b p] X.env).findIdx? (·.1) = some 1 := by rfl)
    (he : (assignEach [a, .Starred b p] X.env).map (·.2) = (assignEach [a, b] X.env).map (·.2) := by rfl) : PG X (.Tuple [a, .Starred b p] k pos) (gStar X.K t) := by
  refine ⟨fun pins s σ H v u Q I r hw => ?_⟩
  obtain ⟨a0, x, xs, e1, hq, hl, hw⟩ := hw
  subst e1
  cases r
  obtain ⟨its, rv, ht, hz⟩ := I.tuple hq
  cases rv with
  | cons r0 rv =>
    rename_i u0 us
    have hul := rv.length
    rw [PyProof.Rows.assign_Tuple]
    refine wpAny_bind (wpAny_standAt ?_)
    unfold unpack
    rw [hn, hst]
    refine wpAny_bind (wpAny_holding (star_tupT ht (I.ok.hd hc) (by simp) (by simp; omega) fun h2 tk hk => ?_))
    rw [he]
    have I2 : Inv X pins σ H { s with heap := h2, toks := tk } := I.kept (t' := tk) hk
    have hn2 : H h2.objs.size = none := I2.hok.fresh (Nat.le_refl _)
    have I3 : Inv X pins σ (upd H h2.objs.size (.lst xs)) { s with heap := h2.push { cls := .type "list", data := .seq ((u0 :: us).toArray.toList.drop 1).toArray }, toks := tk } :=
      I2.laid (t' := tk) (fun b u e => Heap.get?_push_of_some _ e) (Nat.le_refl _) ⟨by rw [sizeLine_eq]; omega, us, 0, rv, Heap.get?_push_size _ rfl⟩
    exact h.run pins _ σ _ [x, .ref h2.objs.size] [u0, .ref h2.objs.size] Q I3 (.cons r0 (.cons rfl .nil)) (hw _ hn2)
end
end L2
namespace Z
open PySem PySem.Spec PyProof.Rows L2
theorem kpg_star (K : PySem.W.Frag) {X : Cx} {pos : Pos} {a b : Expr} {p : Pos} {k : Nat} {t : TGs} (hc : X.calm = true) (h : PGs X [a, b] t)
    (hn : (assignEach [a, .Starred b p] X.env).length = 2 := by rfl) (hst : (assignEach [a, .Starred b p] X.env).findIdx? (·.1) = some 1 := by rfl)
    (he : (assignEach [a, .Starred b p] X.env).map (·.2) = (assignEach [a, b] X.env).map (·.2) := by rfl) (hK : X.K = K := by rfl) : PG X (.Tuple [a, .Starred b p] k pos) (gStar K t) := hK ▸ pg_star hc h hn hst he
section
variable {K : PySem.W.Frag} {E : L2.St → XK} {S0 S T : Wd} {σ : L2.St} {Γ : Ctx} {te : TE} {kx : Addr → D → Prop} {P : Po}
theorem sc_star {i j : Nat} (h : EC K E te Γ (fun d => ∃ d0 ds, d = .tup (d0 :: ds) ∧ ds.length ≤ 1000 ∧ P.nx ((Γ.set i (.dat d0)).set j (.dat (.lst ds)))) (P.kx Γ)) : SC K E (tAsg te (gStar K (gCons (gName i) (gCons (gName j) gNil)))) Γ P := fun S0 S σ D g e G =>
  h S0 S σ _ e (fun T v d g2 r ⟨d0, ds, ed, hl, kd⟩ => by
    subst ed
    unfold Rp at r
    obtain ⟨a, xs, rfl, f, r⟩ := r
    obtain ⟨x, xs', rfl, r1, r2⟩ := r.cons_inv
    refine ⟨a, x, xs', rfl, sqt_mono g2.ok.sub f, by rw [r2.length]; exact hl, fun p hn => ?_⟩
    have g3 := Gr.lay g2.ok hn (.lst xs')
    have rp : Rp K ⟨upd T.F p (.lst xs'), upd T.H p (.lst xs'), T.M⟩ (.lst ds) (.ref p) := by
      unfold Rp
      exact ⟨p, xs', rfl, upd_same, r2.mono g3.le⟩
    exact ⟨x, [.ref p], rfl, .ref p, [], rfl, rfl, G.nx _ _ _ (g.trans (g2.trans g3)) (g2.le.trans g3.le) (((e.gr (g2.trans g3)).setDat (r1.mono g3.le)).setDat rp) kd⟩) (G.kx S σ Γ g (Le.refl S) e)
end
end Z

/-! dict([(tuple(e), v) for x in it]) -/
namespace L2
open PySem PySem.Spec PyProof.Rows PySem.W
/-- the pairs, one stored after the other -/
def putsK (kvs : List (List Key × V)) : List (List Key × V) := kvs.foldl (fun acc kv => putK acc kv.1 kv.2) []
theorem putsK_snoc (kvs : List (List Key × V)) (q : List Key × V) : putsK (kvs ++ [q]) = putK (putsK kvs) q.1 q.2 := by
  unfold putsK
  rw [List.foldl_append]
  rfl
theorem putsK_go : ∀ (kvs acc : List (List Key × V)), (kvs.foldl (fun acc kv => putK acc kv.1 kv.2) acc).length ≤ acc.length + kvs.length
  | [], acc => Nat.le_refl _
  | q :: kvs, acc => by
    have h1 := putsK_go kvs (putK acc q.1 q.2)
    have h2 := length_putK acc q.1 q.2
    rw [List.foldl_cons, List.length_cons]
    omega
theorem putsK_len (kvs : List (List Key × V)) : (putsK kvs).length ≤ kvs.length := by
  have := putsK_go kvs []
  rw [List.length_nil, Nat.zero_add] at this
  exact this
def rDictT (K : PySem.W.Frag) : List V → Hp → VK → Prop := fun vs H Q => ∃ (a : Addr) (prs : List (Addr × Addr × List Key × V)), vs = [V.ref a] ∧ SqL K H a (prs.map fun p => V.ref p.1) ∧
  (∀ p ∈ prs, H p.1 = some (.tup [.ref p.2.1, p.2.2.2]) ∧ H p.2.1 = some (.tup (p.2.2.1.map kV))) ∧ ∀ d, H d = none → Q (.ref d) (upd H d (.dT (putsK (prs.map (·.2.2)))))
theorem pairs_heap {X : Cx} {pn : List (Addr × Obj)} {σ : St} {H : Hp} {s : Shared} (J : Inv X pn σ H s) : ∀ {prs : List (Addr × Addr × List Key × V)}, (∀ p ∈ prs, H p.1 = some (.tup [.ref p.2.1, p.2.2.2]) ∧ H p.2.1 = some (.tup (p.2.2.1.map kV))) →
    ∃ us : List Value, us.length = prs.length ∧ (∀ (j : Nat) p u, prs[j]? = some p → us[j]? = some u → s.heap.IsTuple p.1 #[.ref p.2.1, u]) ∧ KT H (prs.map (·.2.2)) ((prs.zip us).map fun p => (p.1.2.2.1, p.1.2.1, p.2))
  | [], _ => ⟨[], rfl, (fun j p u h => by simp at h), .nil⟩
  | p :: prs, h => by
    obtain ⟨us, hl, hu, hk⟩ := pairs_heap J fun q hq => h q (List.mem_cons_of_mem _ hq)
    obtain ⟨h1, h2⟩ := h p List.mem_cons_self
    obtain ⟨_, its, rv, ht⟩ := (show ObjOk X.prog X.w H s.heap p.1 (.tup [.ref p.2.1, p.2.2.2]) from J.hok p.1 _ h1)
    cases rv with
    | cons e1 r2 =>
      cases r2 with
      | cons e2 r3 =>
        cases r3
        cases e1
        rename_i u
        refine ⟨u :: us, by rw [List.length_cons, hl]; rfl, ?_, .cons ⟨rfl, h2, e2⟩ hk⟩
        rintro (_ | j) q z hq hz
        · cases hq
          cases hz
          exact ht
        · exact hu j q z hq hz
theorem fold_KT {H : Hp} : ∀ {kvs : List (List Key × V)} {ys : List (List Key × Addr × Value)} {acc : List (List Key × V)} {bcc : List (List Key × Addr × Value)}, KT H acc bcc → KT H kvs ys → KT H (kvs.foldl (fun acc kv => putK acc kv.1 kv.2) acc) (storedAllH bcc ys)
  | _, _, _, _, r, .nil => r
  | _, _, _, _, r, .cons (a := p) (b := q) h t => by
    obtain ⟨h1, h2, h3⟩ := h
    have := fold_KT (KT.put r p.1 h2 h3) t
    rw [h1] at this
    rw [← h1] at this
    unfold storedAllH at this ⊢
    rw [List.foldl_cons, List.foldl_cons, ← h1]
    exact this
theorem cr_dictT {X : Cx} (hc : X.calm = true) (hu : X.A.units + 8 < cLine) : CallR X (.type "dict") (rDictT X.K) := by
  intro pn s σ H vs us Q J r h
  obtain ⟨a, prs, rfl, hq, hp, q⟩ := h
  obtain ⟨u, rfl, ru⟩ := vals1 r
  obtain rfl : u = Value.ref a := ru
  obtain ⟨its, rv, pl, hz⟩ := J.list hq
  obtain ⟨us, hl, hus, hkt⟩ := pairs_heap J hp
  have hil : its.length = prs.length := by rw [← rv.length, List.length_map]
  rw [List.length_map] at hz
  have hzip : ((prs.zip us).map fun p => ((Value.ref p.1.2.1, p.2) : Value × Value)).length = prs.length := by rw [List.length_map, List.length_zip, hl, Nat.min_self]
  have P := PairArg.list (prog := X.prog) (w := X.w) a its.toArray (fun j => (prs.getD j (0, 0, [], .non)).1) ((prs.zip us).map fun p => (Value.ref p.1.2.1, p.2))
  have hzg : ∀ {j : Nat} {k v : Value}, ((prs.zip us).map fun p => ((Value.ref p.1.2.1, p.2) : Value × Value))[j]? = some (k, v) → ∃ p, prs[j]? = some p ∧ us[j]? = some v ∧ k = .ref p.2.1 := fun {j k v} h => by
    rw [List.getElem?_map] at h
    cases hzj : (prs.zip us)[j]? with
    | none => rw [hzj] at h; cases h
    | some pq =>
      rw [hzj] at h
      cases h
      obtain ⟨e1, e2⟩ := List.getElem?_zip_eq_some.mp hzj
      exact ⟨pq.1, e1, e2, rfl⟩
  refine call_dict_pairsH (knd := tupleKind (mixKind X.prog X.w)) (ps := (prs.zip us).map fun p => (p.1.2.2.1, p.1.2.1, p.2)) P (J.ok.hd hc) ?_ ⟨pl, ?_, fun j k v e => ?_⟩ ⟨?_, fun j k v e => ?_⟩ (fun h' hk x hx => ?_) ?_ fun h' tk hD keep => ?_
  · show X.A.units + 1 + 1 < cLine
    omega
  · rw [List.size_toArray, hil, hzip]
  · obtain ⟨p, e1, e2, rfl⟩ := hzg e
    obtain ⟨u, g1, g2⟩ := Vals.get (i := j) rv (by rw [List.getElem?_map, e1]; rfl)
    have g2 : u = .ref p.1 := g2
    have e3 : (prs.getD j (0, 0, [], .non)) = p := by rw [List.getD_eq_getElem?_getD, e1]; rfl
    refine ⟨by rw [List.getElem?_toArray, g1, g2]; show some (Value.ref p.1) = some (Value.ref (prs.getD j (0, 0, [], .non)).1); rw [e3], .inl ?_⟩
    show s.heap.IsTuple (prs.getD j (0, 0, [], .non)).1 _
    rw [e3]
    exact hus j p v e1 e2
  · rw [List.length_map, List.length_map]
  · have e : ((prs.zip us).map fun p => ((Value.ref p.1.2.1, p.2) : Value × Value))[j]? = some (k, v) := e
    rw [List.getElem?_map] at e
    cases hzj : (prs.zip us)[j]? with
    | none => rw [hzj] at e; cases e
    | some pq =>
      rw [hzj] at e
      cases e
      exact ⟨pq.1.2.2.1, pq.1.2.1, by rw [List.getElem?_map, hzj]; rfl, rfl⟩
  · obtain ⟨pq, hpq, rfl⟩ := List.mem_map.mp hx
    have hm := (List.of_mem_zip hpq).1
    refine (tupleKind_stays (knd := mixKind X.prog X.w)).stays (fun b o vs n g _ => hk b o (Nat.ne_of_lt (Heap.lt_size g)) List.not_mem_nil g) (key_of J.hok (hp _ hm).2)
  · rw [hzip]
    exact hz
  · have hfr := J.hok.fresh (Nat.le_refl s.heap.objs.size)
    obtain ⟨o, es, ep, g1, g2, g3, g4, _, g5⟩ := hD
    refine ⟨.ref s.heap.objs.size, upd H s.heap.objs.size (.dT (putsK (prs.map (·.2.2)))), J.laid (t' := tk) (fun b o g => keep b o List.not_mem_nil g) (Nat.le_refl _) ?_, rfl, q _ hfr⟩
    refine ⟨Nat.le_trans (putsK_len _) (by rw [List.length_map]; exact hz), beq_eq_false_iff_ne.mpr (Nat.ne_of_gt J.big), _, (fold_KT (H := H) .nil hkt).keeps fun c ys ec => ?_, o, es, ep, g1, g2, g3, g4, g5⟩
    refine (upd_ne fun z => ?_).trans ec
    rw [z, hfr] at ec
    cases ec
theorem kr_dictT (K : PySem.W.Frag) {X : Cx} (hu : X.A.units + 66 < cLine) (hc : X.calm = true := by rfl) (hK : X.K = K := by rfl) : CallR X (.type "dict") (rDictT K) := hK ▸ cr_dictT hc (by omega)
end L2
namespace Z
open L2 PySem PyProof.Rows
variable {K : PySem.W.Frag} {E : L2.St → XK} {Γ : Ctx} {kx : Addr → D → Prop} {ta tb te tv tk : TE}
theorem ew_dictLC {wi : TI} {g : TG} {vs : List Nat} {ko : O → Prop} (h : EI K E wi Γ (fun ds => ds.length ≤ 1000000 ∧ ∃ Iv : Nat → List (List Int × D) → Prop, Iv 0 [] ∧ (∀ (i : Nat) d ps, ds[i]? = some d → Iv i ps → GW K vs g d (wipeC Γ vs) fun Δ =>
      EL K ES0 te Δ (fun ks => EC K ES0 tv Δ (fun dv => ∃ ns : List Int, ks = ns.map .int ∧ Iv (i + 1) (putA ps ns dv)) F0) F0) ∧ ∀ ps, Iv ds.length ps → ko (.ext (dtF K ps))) kx) : EW K E (tCB (rDictT K) (tCons (tLc wi g tYes (tTup (tCons (tCB (zTup K) (tCons te tNil)) (tCons tv tNil))) vs) tNil)) Γ ko kx := fun S0 S σ Q e q x =>
  h S0 S σ _ e (fun T J ds g2 w ⟨hz, Iv, h0, hs, hd⟩ Dp hn => by
    have eT := env_wipe (e.gr g2) vs
    have fresh := Gr.layO g2.ok hn (.lst [])
    refine ⟨fun i m H => ∃ (U : Wd) (ps : List (List Int × D)) (xs : List V) (prs : List (Addr × Addr × List Key × V)), U.H = H ∧ Gr T U ∧ U.H Dp = some (.lst (prs.map fun p => V.ref p.1)) ∧ U.F Dp = none ∧ U.M Dp = none ∧ (∀ p ∈ prs, (U.H p.1 = some (.tup [.ref p.2.1, p.2.2.2]) ∧ U.M p.1 = none) ∧ U.H p.2.1 = some (.tup (p.2.2.1.map kV)) ∧ U.M p.2.1 = none) ∧ putsK (prs.map (·.2.2)) = zipA kT ps xs ∧ RpL K U (ps.map (·.2)) xs ∧ i ≤ ds.length ∧ m = ds.length - i ∧ prs.length ≤ i ∧ Iv i ps,
      ⟨_, ⟨T.F, upd T.H Dp (.lst []), T.M⟩, [], [], [], rfl, fresh, upd_same, g2.ok.fnone hn, g2.ok.mnone hn, (fun _ h => nomatch h), rfl, RpL.nil, Nat.zero_le _, rfl, Nat.le_refl _, h0⟩, ?_⟩
    rintro i m H ⟨U, ps, xs, prs, rfl, gU, hD, hF, hM, hp, hput, rA, hi, rfl, ha, hI⟩
    by_cases hlt : i < ds.length
    · refine .inr ⟨w.go U i gU.ok gU.le hlt, fun H => ∃ (U : Wd) (ps : List (List Int × D)) (xs : List V) (prs : List (Addr × Addr × List Key × V)), U.H = H ∧ Gr T U ∧ U.H Dp = some (.lst (prs.map fun p => V.ref p.1)) ∧ U.F Dp = none ∧ U.M Dp = none ∧ (∀ p ∈ prs, (U.H p.1 = some (.tup [.ref p.2.1, p.2.2.2]) ∧ U.M p.1 = none) ∧ U.H p.2.1 = some (.tup (p.2.2.1.map kV)) ∧ U.M p.2.1 = none) ∧ putsK (prs.map (·.2.2)) = zipA kT ps xs ∧ RpL K U (ps.map (·.2)) xs ∧ prs.length ≤ i + 1 ∧ Iv (i + 1) ps, ?_, fun y H' hy => ?_⟩
      · rintro H2 ⟨U2, ps2, xs2, prs2, e2, a, b, c, d, f, l, n, o, r⟩
        exact ⟨ds.length - (i + 1), by omega, U2, ps2, xs2, prs2, e2, a, b, c, d, f, l, n, hlt, rfl, o, r⟩
      · obtain ⟨U1, d, rfl, g1, ed, rd⟩ := w.yld U i y H' gU.ok gU.le hlt hy
        have gT1 := gU.trans g1
        refine hs i d ps ed hI S0 U1 (wipe σ vs) y _ (eT.gr gT1) rd fun τ Δ hw e2 h2 => ⟨hw.trans wipe_idem, ?_⟩
        simp only [tYes, ↓reduceIte]
        refine h2 S0 U1 τ _ e2 (fun U3 pp ys ks g3 hpp hmm r3 h3 => ?_) xp0
        simp only [tNil]
        refine ⟨pp, ys, rfl, SqL.of hpp, fun c hc => ?_⟩
        have gc := Gr.lay g3.ok hc (.tup ys)
        refine h3 S0 _ τ _ ((e2.gr g3).gr gc) (fun U4 v4 d4 g4 r4 ⟨ns, en, k4⟩ => ?_) xp0
        subst en
        have g14 := (g1.trans (g3.trans gc)).trans g4
        have gT4 := gU.trans g14
        have hcU : U4.H c = some (.tup ((kT ns).map kV)) := by
          rw [kT_vals, ← r3.ints]
          exact g4.hp c _ upd_same (g3.ok.mnone hc)
        have hcM : U4.M c = none := by
          rw [g4.mu _ _ upd_same]
          exact g3.ok.mnone hc
        obtain ⟨us, eu, ru⟩ := put_zip kT_inj ns r4 (rA.mono g14.le)
        refine ⟨Nat.le_of_lt (bigL (show 2 < 1000000 by decide)), fun pr hpr => ?_⟩
        have gp := Gr.layO g4.ok hpr (.tup [.ref c, v4])
        have g5 := g14.trans gp
        have gT5 := gU.trans g5
        have hD5 := g5.hp _ _ hD hM
        have hF5 := g5.fr _ _ hD hF
        have hM5 := g5.mu _ _ hD
        rw [hM] at hM5
        have hne : ∀ {b : Addr} {zs : List V}, upd U4.H pr (.tup [.ref c, v4]) b = some (.tup zs) → b ≠ Dp := fun hb e => by
          rw [e] at hb
          have := hb.symm.trans hD5
          cases this
        have hpM : U4.M pr = none := g4.ok.mnone hpr
        have hcp : upd U4.H pr (.tup [.ref c, v4]) c = some (.tup ((kT ns).map kV)) := by
          refine (upd_ne fun z => ?_).trans hcU
          rw [z, hpr] at hcU
          cases hcU
        refine ⟨_, hD5, by rw [List.length_map]; exact bigL (by omega), ⟨U4.F, upd (upd U4.H pr (.tup [.ref c, v4])) Dp (.lst ((prs ++ [(pr, c, kT ns, v4)]).map fun p => V.ref p.1)), U4.M⟩, putA ps ns d4, us, prs ++ [(pr, c, kT ns, v4)], by rw [List.map_append]; rfl, gT5.change hn hF5 hM5 _, upd_same, hF5, hM5, fun p hpm => ?_, ?_, (ru.mono gp.le).mono (Le.chg ⟨U4.F, upd U4.H pr (.tup [.ref c, v4]), U4.M⟩ Dp _), ?_, k4⟩
        · rcases List.mem_append.mp hpm with hpm | hpm
          · obtain ⟨⟨p1, p2⟩, p3, p4⟩ := hp p hpm
            have q1 := g5.hp _ _ p1 p2
            have q2 := g5.hp _ _ p3 p4
            have m1 := g5.mu _ _ p1
            have m2 := g5.mu _ _ p3
            rw [p2] at m1
            rw [p4] at m2
            exact ⟨⟨(upd_ne (hne q1)).trans q1, m1⟩, (upd_ne (hne q2)).trans q2, m2⟩
          · cases List.mem_singleton.mp hpm
            exact ⟨⟨(upd_ne (hne upd_same)).trans upd_same, hpM⟩, (upd_ne (hne hcp)).trans hcp, hcM⟩
        · rw [List.map_append]
          show putsK (prs.map (·.2.2) ++ [(kT ns, v4)]) = _
          rw [putsK_snoc, hput, eu]
        · rw [List.length_append]
          exact Nat.add_le_add_right ha 1
    · have ei : i = ds.length := by omega
      subst ei
      refine .inl ⟨w.stop U _ gU.ok gU.le (Nat.le_refl _), ?_⟩
      show rDictT K [V.ref Dp] U.H Q
      refine ⟨Dp, prs, rfl, SqL.of hD, fun p hpm => ⟨(hp p hpm).1.1, (hp p hpm).2.1⟩, fun d hdn => ?_⟩
      rw [hput]
      refine q _ _ _ [d] ((g2.trans gU).trans (Gr.layO gU.ok hdn (.dT (zipA kT ps xs)) nc_dT)) ?_ nodup1 (hd ps hI)
      unfold Ow
      exact ⟨d, _, rfl, rfl, upd_same, ⟨gU.ok.fnone hdn, gU.ok.mnone hdn, (g2.trans gU).new hdn⟩, fun X hX => ⟨xs, rfl, rA.mono ((Le.chg U d _).trans hX)⟩⟩) x
end Z

/-! x in d, x not in d: x a tuple of whole numbers, d a dict of one's own -/
namespace L2
open PySem PySem.Spec PyProof.Rows PySem.W
theorem key_any {P : Program} {w : World} {h : Heap} {a : Addr} {ks : List Key} {its : List Value} (r : Vals (ks.map kV) its) (t : IsTup h a its.toArray) (e : ks.length ≤ sizeLine) : (tupleKind (mixKind P w)).is h ks a := by
  refine key_of (H := fun b => if b = a then some (.tup (ks.map kV)) else none) (fun b o hb => ?_) (by simp)
  dsimp only at hb
  by_cases hba : b = a
  · rw [if_pos hba] at hb
    cases hb
    rw [hba]
    exact ⟨by rw [List.length_map]; exact e, its, r, t⟩
  · rw [if_neg hba] at hb
    cases hb
theorem at_KT {H : Hp} {kvs : List (List Key × V)} {ys : List (List Key × Addr × Value)} (r : KT H kvs ys) (k : List Key) : (valueAt (pairsH ys) k).isSome = (valV kvs k).isSome := by
  induction r with
  | nil => rfl
  | cons h _ ih =>
    rename_i p q _ _ _
    unfold valueAt valV pairsH at ih ⊢
    rw [List.map_cons, List.find?_cons, List.find?_cons]
    simp only [h.1]
    cases hd : decide (q.1 = k) with
    | true => simp [hd]
    | false => simpa [hd] using ih
def rInTV (K : PySem.W.Frag) : R2 := fun x y H Q => ∃ (p d : Addr) (ks : List Key) (kvs : List (List Key × V)), x = .ref p ∧ y = .ref d ∧ SqT K H p (ks.map kV) ∧ H d = some (.dT kvs) ∧ Q (.bl (valV kvs ks).isSome) H
def rNotInTV (K : PySem.W.Frag) : R2 := fun x y H Q => ∃ (p d : Addr) (ks : List Key) (kvs : List (List Key × V)), x = .ref p ∧ y = .ref d ∧ SqT K H p (ks.map kV) ∧ H d = some (.dT kvs) ∧ Q (.bl (!(valV kvs ks).isSome)) H
theorem op_inTV {X : Cx} (hu : X.A.units + 65 < cLine) : OpR X (compareOp .In) (rInTV X.K) := by
  intro pins s σ H x y v u Q J rx ry h
  obtain ⟨p, d, ks, kvs, rfl, rfl, hp, hd, q⟩ := h
  cases rx
  cases ry
  obtain ⟨its, rv, ht, hz⟩ := J.tuple hp
  obtain ⟨z, nsys, ys, rel, dd⟩ := dt_of J.hok hd
  rw [List.length_map] at hz
  refine in_keyed (knd := tupleKind (mixKind X.prog X.w)) (show X.A.units + 1 < cLine by omega) (key_any rv ht hz) nsys ⟨ys, dd, rfl⟩ ?_
  exact ⟨.bl (valV kvs ks).isSome, H, J.tok _, by rw [at_KT rel]; rfl, q⟩
theorem op_notInTV {X : Cx} (hu : X.A.units + 65 < cLine) : OpR X (compareOp .NotIn) (rNotInTV X.K) := by
  intro pins s σ H x y v u Q J rx ry h
  obtain ⟨p, d, ks, kvs, rfl, rfl, hp, hd, q⟩ := h
  cases rx
  cases ry
  obtain ⟨its, rv, ht, hz⟩ := J.tuple hp
  obtain ⟨z, nsys, ys, rel, dd⟩ := dt_of J.hok hd
  rw [List.length_map] at hz
  refine notIn_keyed (knd := tupleKind (mixKind X.prog X.w)) (show X.A.units + 1 < cLine by omega) (key_any rv ht hz) nsys ⟨ys, dd, rfl⟩ ?_
  exact ⟨.bl (!(valV kvs ks).isSome), H, J.tok _, by rw [at_KT rel]; rfl, q⟩
theorem kop_inTV (K : PySem.W.Frag) {X : Cx} (hu : X.A.units + 65 < cLine) (hK : X.K = K := by rfl) : OpR X (compareOp .In) (rInTV K) := hK ▸ op_inTV hu
theorem kop_notInTV (K : PySem.W.Frag) {X : Cx} (hu : X.A.units + 65 < cLine) (hK : X.K = K := by rfl) : OpR X (compareOp .NotIn) (rNotInTV K) := hK ▸ op_notInTV hu
end L2
namespace Z
open L2 PySem PyProof.Rows
theorem rd_notB {K : PySem.W.Frag} {k : D → Prop} {a b : Bool} (hk : k (.bl (!decide (a = b)))) : RD K rNotB (.bl a) (.bl b) k := fun S Q v w ok r1 r2 q => by
  unfold Rp at r1 r2
  exact ⟨a, b, r1, r2, q S _ _ (Gr.refl ok) rpb hk⟩
variable {K : PySem.W.Frag} {E : L2.St → XK} {Γ : Ctx} {kx : Addr → D → Prop} {k : D → Prop} {te : TE}
theorem isSome_get {ns : List Int} {ps : List (List Int × D)} {vs : List V} {S : Wd} (rv : RpL K S (ps.map (·.2)) vs) : (valV (zipA kT ps vs) (kT ns)).isSome = (getA ps ns).isSome := by
  have hg := get_zip kT_inj ns rv
  cases hz : getA ps ns with
  | none => rw [hg.1 hz]; rfl
  | some d =>
    obtain ⟨v, hv, _⟩ := hg.2 d hz
    rw [hv]; rfl
theorem ec_inTV {i : Nat} {ps : List (List Int × D)} (hd : Γ[i]? = some (.tre (.ext (dtF K ps)))) (h : EC K E te Γ (fun y => ∃ ns : List Int, y = .tup (ns.map .int) ∧ k (.bl (getA ps ns).isSome)) kx) : EC K E (tOp (rInTV K) te (tVar i)) Γ k kx := fun S0 S σ Q e q x =>
  h S0 S σ _ e (fun T v d g r ⟨ns, ed, kd⟩ => by
    subst ed
    unfold Rp at r
    obtain ⟨a, xs, rfl, hsq, rl⟩ := r
    have eT := e.gr g
    obtain ⟨l, o, h1, h2, _, _, _, hf⟩ := eT.ext hd
    obtain ⟨vs, rfl, rv⟩ := hf T (Le.refl T)
    refine ⟨_, h1, a, l, kT ns, _, rfl, rfl, ?_, h2, ?_⟩
    · rw [kT_vals, ← rl.ints]
      exact sqt_mono g.ok.sub hsq
    · rw [isSome_get rv]
      exact q T _ _ g rpb kd) x
theorem ec_notInTV {i : Nat} {ps : List (List Int × D)} (hd : Γ[i]? = some (.tre (.ext (dtF K ps)))) (h : EC K E te Γ (fun y => ∃ ns : List Int, y = .tup (ns.map .int) ∧ k (.bl (!(getA ps ns).isSome))) kx) : EC K E (tOp (rNotInTV K) te (tVar i)) Γ k kx := fun S0 S σ Q e q x =>
  h S0 S σ _ e (fun T v d g r ⟨ns, ed, kd⟩ => by
    subst ed
    unfold Rp at r
    obtain ⟨a, xs, rfl, hsq, rl⟩ := r
    have eT := e.gr g
    obtain ⟨l, o, h1, h2, _, _, _, hf⟩ := eT.ext hd
    obtain ⟨vs, rfl, rv⟩ := hf T (Le.refl T)
    refine ⟨_, h1, a, l, kT ns, _, rfl, rfl, ?_, h2, ?_⟩
    · rw [kT_vals, ← rl.ints]
      exact sqt_mono g.ok.sub hsq
    · rw [isSome_get rv]
      exact q T _ _ g rpb kd) x
end Z

namespace Z
open PySem PySem.Spec PyProof.Rows L2
section
variable {K : PySem.W.Frag} {E : L2.St → XK} {S0 S T : Wd} {Γ : Ctx} {kx : Addr → D → Prop} {k : O → Prop}
/-- a conditional expression whose result is a new tree -/
theorem ew_if {tt : TT} {ta tb : TE} (h : ET K E tt Γ (fun b => if b = true then EW K E ta Γ k kx else EW K E tb Γ k kx) kx) : EW K E (tIf tt ta tb) Γ k kx := fun S0 S σ Q e q x =>
  h S0 S σ _ e (fun T b g kd => by
    cases b with
    | true =>
      have h2 : EW K E ta Γ k kx := kd
      show ta σ T.H Q
      exact h2 S0 T σ Q (e.gr g) (fun U v o A g2 r n kd => q U v o A (g.trans g2) (r.base fun a h => g.new h) n kd) (x.gr g)
    | false =>
      have h2 : EW K E tb Γ k kx := kd
      show tb σ T.H Q
      exact h2 S0 T σ Q (e.gr g) (fun U v o A g2 r n kd => q U v o A (g.trans g2) (r.base fun a h => g.new h) n kd) (x.gr g)) x
end
/-! an own list compared with data: the other slots keep what they hold, but for the memos -/
@[reducible] def vwS2 : Sl → Sl
  | .dat d => .dat d.um
  | _ => .un
@[reducible] def vwC2 (i : Nat) (ds : List D) (Γ : Ctx) : Ctx := (Γ.map vwS2).set i (.dat (.lst ds))
def tVwN (_ : Nat) (t : TE) : TE := t
theorem pe_vwN {X : Cx} {e : Expr} {t : TE} (i : Nat) (h : PE X e t) : PE X e (tVwN i t) := h
section
variable {K : PySem.W.Frag} {E : L2.St → XK} {S0 S T : Wd} {σ : L2.St} {Γ : Ctx} {te : TE} {k : D → Prop} {kx : Addr → D → Prop}
theorem EnvOk.view2 (e : EnvOk K S0 S σ Γ) {j : Nat} {ds : List D} (hj : Γ[j]? = some (.own ds)) (hu : D.ums ds = ds) : EnvOk K S.vx S.vx σ (vwC2 j ds Γ) := by
  refine ⟨vx_ok e.ok, by rw [e.len]; unfold vwC2; rw [List.length_set, List.length_map], fun _ => [], fun i s h => ?_, fun i j a _ h _ => absurd h List.not_mem_nil, fun _ => List.nodup_nil, fun _ _ => rfl⟩
  have h : ((Γ.map vwS2).set j (.dat (.lst ds)))[i]? = some s := h
  obtain ⟨A, hA, _⟩ := e.fp
  by_cases hij : j = i
  · subst hij
    rw [List.getElem?_set_self (by rw [List.length_map]; exact (List.getElem?_eq_some_iff.mp hj).1)] at h
    cases h
    obtain ⟨l, xs, _, q, hp, w, r⟩ := hA j _ hj
    refine ⟨rfl, .ref l, q, ?_⟩
    have r2 : Rp K S.vw (.lst ds) (.ref l) := by
      unfold Rp
      exact ⟨l, xs, rfl, by rw [vw_F w.m]; exact hp, r.mono (Le.vw e.ok)⟩
    have r3 := r2.vx
    rw [um_lst, hu] at r3
    exact r3
  rw [List.getElem?_set_ne hij, List.getElem?_map] at h
  cases hg : Γ[i]? with
  | none => rw [hg] at h; cases h
  | some s0 =>
    rw [hg] at h
    cases h
    have hs := hA i s0 hg
    cases s0 with
    | own ds => exact rfl
    | dat d =>
      obtain ⟨_, v, q, r⟩ := hs
      exact ⟨rfl, v, q, (r.mono (Le.vw e.ok)).vx⟩
    | un => exact rfl
    | tre o => exact rfl
    | fct d f => exact rfl
theorem ec_vwN {i : Nat} {ds : List D} (hi : Γ[i]? = some (.own ds)) (hu : D.ums ds = ds) (h : EC K E te (vwC2 i ds Γ) (fun d => d.flat = true ∧ k d) F0) : EC K E (tVwN i te) Γ k kx := fun S0 S σ Q e q x =>
  h S.vx S.vx σ Q (e.view2 hi hu) (fun T v d g r kd => q (T.un S) v d (Gr.un e.ok g) (r.flat kd.1) kd.2) xp0
def tVwT (_ : Nat) (t : TT) : TT := t
theorem pt_vwT {X : Cx} {e : Expr} {t : TT} (i : Nat) (h : PT X e t) : PT X e (tVwT i t) := h
theorem et_vwN {i : Nat} {ds : List D} {tt : TT} {kb : Bool → Prop} (hi : Γ[i]? = some (.own ds)) (hu : D.ums ds = ds) (h : ET K E tt (vwC2 i ds Γ) kb F0) : ET K E (tVwT i tt) Γ kb kx := fun S0 S σ Q e q x =>
  h S.vx S.vx σ Q (e.view2 hi hu) (fun T b g kd => q (T.un S) b (Gr.un e.ok g) kd) xp0
end
end Z

namespace My
open PySem PySem.Spec PyProof.Rows L2 Z
def topS (i : Nat) : Stmt := PySem.Challenge.pw_firenegatives_k21_whole_cycles_in_closed.main.body.getD i (.Pass ⟨0, 0, 0, 0⟩)
def methS (i j : Nat) : Stmt := (Z.clsBody (topS i)).getD j (.Pass ⟨0, 0, 0, 0⟩)
local macro_rules | `(tactic| walk_at "z1") => `(tactic| (with_reducible exact rfl))
local macro_rules | `(tactic| walk_at "z1") => `(tactic| (with_reducible refine iteNFT ?_))
local macro_rules | `(tactic| walk_at "z1") => `(tactic| (with_reducible refine iteNTF ?_))
local macro_rules | `(tactic| walk_at "z1") => `(tactic| ((with_reducible refine' ite_nF ?zh ?_); (case zh => first | omega | (simp only [List.length_map, List.length_range, List.length_zipIdx, List.length_zip, List.length_append, List.length_cons, List.length_nil, List.length_set, List.length_replicate]; omega))))
local macro_rules | `(tactic| walk_at "z1") => `(tactic| ((with_reducible refine' ite_nT ?zh ?_); (case zh => first | omega | (simp only [List.length_map, List.length_range, List.length_zipIdx, List.length_zip, List.length_append, List.length_cons, List.length_nil, List.length_set, List.length_replicate]; omega))))
local macro_rules | `(tactic| walk_at "z1") => `(tactic| ((with_reducible refine' ite_dF ?zh ?_); (case zh => first | omega | (simp only [List.length_map, List.length_range, List.length_zipIdx, List.length_zip, List.length_append, List.length_cons, List.length_nil, List.length_set, List.length_replicate]; omega))))
local macro_rules | `(tactic| walk_at "z1") => `(tactic| ((with_reducible refine' ite_dT ?zh ?_); (case zh => first | omega | (simp only [List.length_map, List.length_range, List.length_zipIdx, List.length_zip, List.length_append, List.length_cons, List.length_nil, List.length_set, List.length_replicate]; omega))))
local macro_rules | `(tactic| walk_at "z1") => `(tactic| (with_reducible refine ite_rfl ?_))
local macro_rules | `(tactic| walk_at "z1") => `(tactic| (with_reducible refine ite_nrfl ?_))
local macro_rules | `(tactic| walk_at "z1") => `(tactic| (with_reducible refine L2.iteF ?_))
local macro_rules | `(tactic| walk_at "z1") => `(tactic| (with_reducible refine L2.iteT ?_))
local macro_rules | `(tactic| walk_at "z1") => `(tactic| ((with_reducible refine' take_ok ?zh ?zi ?_); (case zh => first | (with_reducible assumption) | omega | (simp only [List.length_map, List.length_range, List.length_zipIdx, List.length_zip, List.length_append, List.length_cons, List.length_nil, List.length_set, List.length_replicate]; omega)); (case zi => first | (with_reducible assumption) | omega | (simp only [List.length_map, List.length_range, List.length_zipIdx, List.length_zip, List.length_append, List.length_cons, List.length_nil, List.length_set, List.length_replicate]; omega)); intro rr rr0 rr1))
local macro_rules | `(tactic| walk_at "z1") => `(tactic| ((with_reducible refine And.intro ?zh ?_); (case zh => first | (with_reducible assumption) | omega | exact Nat.le_of_ble_eq_true rfl | decide | (simp only [List.length_map, List.length_range, List.length_zipIdx, List.length_zip, List.length_append, List.length_cons, List.length_nil, List.length_set, List.length_replicate]; omega) | (refine ⟨?_, ?_⟩ <;> omega) | (refine ⟨?_, ?_, ?_⟩ <;> first | omega | decide))))
local macro_rules | `(tactic| walk_at "z1") => `(tactic| (with_reducible refine ⟨rfl, ?_⟩))
local macro_rules | `(tactic| walk_at "z1") => `(tactic| (with_reducible refine ⟨_, _, _, rfl, ?_⟩))
local macro_rules | `(tactic| walk_at "z1") => `(tactic| (with_reducible refine ⟨_, _, rfl, ?_⟩))
local macro_rules | `(tactic| walk_at "z1") => `(tactic| (with_reducible refine ⟨_, rfl, ?_⟩))
local macro_rules | `(tactic| walk_at "z1") => `(tactic| (with_reducible exact ⟨_, rfl, rfl⟩))
local macro_rules | `(tactic| walk_at "z1") => `(tactic| (refine ⟨"int", false, rfl, isi_ib, ?_⟩))
local macro_rules | `(tactic| walk_at "z1") => `(tactic| (refine ⟨"int", true, rfl, isi_ii, ?_⟩))
local macro_rules | `(tactic| walk_at "z1") => `(tactic| (refine ⟨"list", true, rfl, isi_ll, ?_⟩))
local macro_rules | `(tactic| walk_at "z1") => `(tactic| ((with_reducible refine' meth_ok ?zf ?_); (case zf => decide)))
local macro_rules | `(tactic| walk_at "z1") => `(tactic| ((with_reducible refine' fld_ok ?zt ?zf ?zl ?_); (case zt => with_reducible assumption); (case zf => decide); (case zl => exact rfl)))
local macro_rules | `(tactic| walk_at "z1") => `(tactic| (with_reducible apply gws_nil))
local macro_rules | `(tactic| walk_at "z1") => `(tactic| (with_reducible apply gws_cons))
local macro_rules | `(tactic| walk_at "z1") => `(tactic| ((with_reducible refine' gw_tup ?zh ?_); (case zh => exact rfl)))
local macro_rules | `(tactic| walk_at "z1") => `(tactic| ((with_reducible refine' gw_name ?zh ?_); (case zh => decide)))
local macro_rules | `(tactic| walk_at "z1") => `(tactic| (with_reducible apply gcs_nil))
local macro_rules | `(tactic| walk_at "z1") => `(tactic| (with_reducible apply gcs_cons))
local macro_rules | `(tactic| walk_at "z1") => `(tactic| ((with_reducible refine' gc_tup ?zh ?_); (case zh => exact rfl)))
local macro_rules | `(tactic| walk_at "z1") => `(tactic| (with_reducible apply gc_name))
local macro_rules | `(tactic| walk_at "z1") => `(tactic| ((with_reducible refine' gw_lst ?zh ?_); (case zh => exact rfl)))
local macro_rules | `(tactic| walk_at "z1") => `(tactic| ((with_reducible refine' gc_lst ?zh ?_); (case zh => exact rfl)))
local macro_rules | `(tactic| walk_at "z1") => `(tactic| (with_reducible apply ei_zipM))
local macro_rules | `(tactic| walk_at "z1") => `(tactic| (with_reducible apply ei_enum1))
local macro_rules | `(tactic| walk_at "z1") => `(tactic| (with_reducible apply ei_tup))
local macro_rules | `(tactic| walk_at "z1") => `(tactic| (with_reducible apply ei_zip))
local macro_rules | `(tactic| walk_at "z1") => `(tactic| (with_reducible apply ei_enum))
local macro_rules | `(tactic| walk_at "z1") => `(tactic| (with_reducible apply ei_range2))
local macro_rules | `(tactic| walk_at "z1") => `(tactic| (with_reducible apply ei_range1))
local macro_rules | `(tactic| walk_at "z1") => `(tactic| (with_reducible apply ei_list))
local macro_rules | `(tactic| walk_at "z1") => `(tactic| (with_reducible apply ev_ec))
local macro_rules | `(tactic| walk_at "z1") => `(tactic| ((with_reducible refine' ev_el ?_); ((with_reducible refine' el_own ?zh ?_); (case zh => exact rfl))))
local macro_rules | `(tactic| walk_at "z1") => `(tactic| ((with_reducible refine' ev_el ?_); ((with_reducible refine' el_ixT ?zh ?_); (case zh => exact rfl))))
local macro_rules | `(tactic| walk_at "z1") => `(tactic| ((with_reducible refine' ev_tre ?zh ?_); (case zh => exact rfl)))
local macro_rules | `(tactic| walk_at "z1") => `(tactic| ((with_reducible refine' el_dat ?_); first | (first | ((with_reducible refine' ec_var ?zh ?_); (case zh => exact rfl)) | ((with_reducible refine' ec_varF ?zh ?_); (case zh => exact rfl))) | (with_reducible apply ec_int) | (with_reducible apply ec_bl) | (with_reducible apply ec_str) | (with_reducible apply ec_non) | ((with_reducible refine' ec_lit ?zl ?_); (case zl => with_reducible assumption)) | (with_reducible apply ec_val) | ((with_reducible refine' ec_inT ?zh ?_); (case zh => exact rfl)) | ((with_reducible refine' ec_notInT ?zh ?_); (case zh => exact rfl)) | ((with_reducible refine' ec_inTV ?zh ?_); (case zh => exact rfl)) | ((with_reducible refine' ec_notInTV ?zh ?_); (case zh => exact rfl)) | ((with_reducible refine' ec_getT ?zh ?_); (case zh => exact rfl)) | ((with_reducible refine' ec_lenT' ?zh ?_); (case zh => exact rfl)) | ((with_reducible refine' ec_inI ?zh ?_); (case zh => exact rfl)) | ((with_reducible refine' ec_notInI ?zh ?_); (case zh => exact rfl)) | ((with_reducible refine' ec_getI ?zh ?_); (case zh => exact rfl)) | ((with_reducible refine' ec_inTup (n := 6) ?zn ?_); (case zn => decide)) | ((with_reducible refine' ec_pool0 ?_); (first | ((with_reducible refine' ec_var ?zh ?_); (case zh => exact rfl)) | ((with_reducible refine' ec_varF ?zh ?_); (case zh => exact rfl))); refine ⟨rfl, ?_⟩; intro zz) | ((with_reducible refine' ec_pool1 ?_); (first | ((with_reducible refine' ec_var ?zh ?_); (case zh => exact rfl)) | ((with_reducible refine' ec_varF ?zh ?_); (case zh => exact rfl))); refine ⟨rfl, ?_⟩; intro zz zz0 zz1) | ((with_reducible refine' ec_ixScr ?_); (first | ((with_reducible refine' ec_var ?zh ?_); (case zh => exact rfl)) | ((with_reducible refine' ec_varF ?zh ?_); (case zh => exact rfl))); refine ⟨_, rfl, ?_⟩) | ((with_reducible refine' ec_fldO' ?zt ?zf ?zh ?zl ?_); (case zt => with_reducible assumption); (case zf => decide); (case zh => exact rfl); (case zl => exact rfl)) | (with_reducible apply ec_fld) | ((with_reducible refine' ec_xf ?zh ?_); (case zh => exact rfl)) | (with_reducible apply ec_ix) | (with_reducible apply ec_ixT) | (with_reducible apply ec_chain) | ((with_reducible refine' ec_new ?_); (first | (with_reducible apply en_callV) | (with_reducible apply en_call0) | (with_reducible apply en_call) | (with_reducible apply en_meth0) | (with_reducible apply en_lst) | (with_reducible apply en_slice) | (with_reducible apply en_cat) | (with_reducible apply en_rep) | (with_reducible apply en_list) | (with_reducible apply en_listRg) | (with_reducible apply en_sorted) | (with_reducible apply en_sortedP) | (with_reducible apply en_sortedR) | (with_reducible apply en_sortLen) | (with_reducible apply en_revL) | (with_reducible apply en_map) | (with_reducible apply en_lc) | (with_reducible apply en_lc2) | ((with_reducible refine' en_ixW ?_); (first | (with_reducible apply ew_dnewT) | (with_reducible apply ew_dnewK) | (with_reducible apply ew_dispI) | (with_reducible apply ew_dispT) | (with_reducible apply ew_dcT) | (with_reducible apply ew_dictLC) | (with_reducible apply ew_dcI) | ((with_reducible refine' ew_make0 (dds := []) ?zd ?_); (case zd => exact fun _ => RpL.nil)) | ((with_reducible refine' ew_make (dds := []) ?zd ?_); (case zd => exact fun _ => RpL.nil)) | (with_reducible apply ew_callX0) | (with_reducible apply ew_callX) | (with_reducible apply ew_call0) | (with_reducible apply ew_call) | (with_reducible apply ew_lcN))) | ((with_reducible refine' en_ofW ?_); (first | (with_reducible apply ew_call0) | (with_reducible apply ew_call))))) | ((with_reducible refine' ec_ofW ?_); (first | (with_reducible apply ew_dispI) | (with_reducible apply ew_dispT) | (with_reducible apply ew_dcT) | (with_reducible apply ew_dictLC) | (with_reducible apply ew_dcI) | ((with_reducible refine' ew_make0 (dds := []) ?zd ?_); (case zd => exact fun _ => RpL.nil)) | ((with_reducible refine' ew_make (dds := []) ?zd ?_); (case zd => exact fun _ => RpL.nil)) | (with_reducible apply ew_callX0) | (with_reducible apply ew_callX) | (with_reducible apply ew_call0) | (with_reducible apply ew_call) | (with_reducible apply ew_lcN))) | ((with_reducible refine' ec_inL (n := 6) ?zn ?_); (case zn => decide)) | ((with_reducible refine' ec_notInL (n := 6) ?zn ?_); (case zn => decide)) | ((with_reducible refine' ec_isNV ?_); ((with_reducible refine' ev_tre ?zh ?_); (case zh => exact rfl))) | ((with_reducible refine' ec_notNV ?_); ((with_reducible refine' ev_tre ?zh ?_); (case zh => exact rfl))) | (with_reducible apply ec_stepT) | (with_reducible apply ec_op) | (with_reducible apply ec_andV) | (with_reducible apply ec_orV) | (with_reducible apply ec_notV) | (with_reducible apply ec_if) | (with_reducible apply ec_isN2) | (with_reducible apply ec_notN2) | (with_reducible apply ec_tup) | (with_reducible apply ec_call0) | (with_reducible apply ec_call) | (with_reducible apply ec_meth0) | (with_reducible apply ec_methX) | (with_reducible apply ec_callV) | ((with_reducible refine' ec_vwL ?zh ?zu ?_); (case zh => exact rfl)) | ((with_reducible refine' ec_callT (i := 0) ?zh ?_); (case zh => exact rfl)) | ((with_reducible refine' ec_lenS ?_); (first | ((with_reducible refine' ec_var ?zh ?_); (case zh => exact rfl)) | ((with_reducible refine' ec_varF ?zh ?_); (case zh => exact rfl))); refine ⟨_, rfl, ?_⟩) | ((with_reducible refine' ec_lenT ?_); (first | ((with_reducible refine' ec_var ?zh ?_); (case zh => exact rfl)) | ((with_reducible refine' ec_varF ?zh ?_); (case zh => exact rfl))); with_reducible refine ⟨_, rfl, ?_⟩) | ((with_reducible refine' ec_isiO ?zh ?_); (case zh => with_reducible assumption)) | (with_reducible apply ec_lenO) | (with_reducible apply ec_index) | (with_reducible apply ec_countD) | (with_reducible apply ec_repr) | (with_reducible apply ec_lenSet) | (with_reducible apply ec_len) | (with_reducible apply ec_isiT2) | (with_reducible apply ec_isi) | (with_reducible apply ec_sum) | (with_reducible apply ec_minP) | (with_reducible apply ec_maxP) | (with_reducible apply ec_max) | (with_reducible apply ec_min) | (with_reducible apply ec_any) | (with_reducible apply ec_all) | (with_reducible apply ec_anyI) | (with_reducible apply ec_abs) | (with_reducible apply ec_max2) | (with_reducible apply ec_min2) | (with_reducible apply ec_intB) | (with_reducible apply ec_tupOf) | (with_reducible apply ec_neg)))
local macro_rules | `(tactic| walk_at "z1") => `(tactic| ((with_reducible refine' el_new ?_); (first | (with_reducible apply en_callV) | (with_reducible apply en_call0) | (with_reducible apply en_call) | (with_reducible apply en_meth0) | (with_reducible apply en_lst) | (with_reducible apply en_slice) | (with_reducible apply en_cat) | (with_reducible apply en_rep) | (with_reducible apply en_list) | (with_reducible apply en_listRg) | (with_reducible apply en_sorted) | (with_reducible apply en_sortedP) | (with_reducible apply en_sortedR) | (with_reducible apply en_sortLen) | (with_reducible apply en_revL) | (with_reducible apply en_map) | (with_reducible apply en_lc) | (with_reducible apply en_lc2) | ((with_reducible refine' en_ixW ?_); (first | (with_reducible apply ew_dnewT) | (with_reducible apply ew_dnewK) | (with_reducible apply ew_dispI) | (with_reducible apply ew_dispT) | (with_reducible apply ew_dcT) | (with_reducible apply ew_dictLC) | (with_reducible apply ew_dcI) | ((with_reducible refine' ew_make0 (dds := []) ?zd ?_); (case zd => exact fun _ => RpL.nil)) | ((with_reducible refine' ew_make (dds := []) ?zd ?_); (case zd => exact fun _ => RpL.nil)) | (with_reducible apply ew_callX0) | (with_reducible apply ew_callX) | (with_reducible apply ew_call0) | (with_reducible apply ew_call) | (with_reducible apply ew_lcN))) | ((with_reducible refine' en_ofW ?_); (first | (with_reducible apply ew_call0) | (with_reducible apply ew_call))))))
local macro_rules | `(tactic| walk_at "z1") => `(tactic| ((with_reducible refine' el_ixT ?zh ?_); (case zh => exact rfl)))
local macro_rules | `(tactic| walk_at "z1") => `(tactic| ((with_reducible refine' el_var ?zh ?_); (case zh => exact rfl)))
local macro_rules | `(tactic| walk_at "z1") => `(tactic| ((with_reducible refine' el_own ?zh ?_); (case zh => exact rfl)))
local macro_rules | `(tactic| walk_at "z1") => `(tactic| (with_reducible apply eaw_d))
local macro_rules | `(tactic| walk_at "z1") => `(tactic| ((with_reducible refine' eaw_n ?_); (first | (with_reducible apply en_callV) | (with_reducible apply en_call0) | (with_reducible apply en_call) | (with_reducible apply en_meth0) | (with_reducible apply en_lst) | (with_reducible apply en_slice) | (with_reducible apply en_cat) | (with_reducible apply en_rep) | (with_reducible apply en_list) | (with_reducible apply en_listRg) | (with_reducible apply en_sorted) | (with_reducible apply en_sortedP) | (with_reducible apply en_sortedR) | (with_reducible apply en_sortLen) | (with_reducible apply en_revL) | (with_reducible apply en_map) | (with_reducible apply en_lc) | (with_reducible apply en_lc2) | ((with_reducible refine' en_ixW ?_); (first | (with_reducible apply ew_dnewT) | (with_reducible apply ew_dnewK) | (with_reducible apply ew_dispI) | (with_reducible apply ew_dispT) | (with_reducible apply ew_dcT) | (with_reducible apply ew_dictLC) | (with_reducible apply ew_dcI) | ((with_reducible refine' ew_make0 (dds := []) ?zd ?_); (case zd => exact fun _ => RpL.nil)) | ((with_reducible refine' ew_make (dds := []) ?zd ?_); (case zd => exact fun _ => RpL.nil)) | (with_reducible apply ew_callX0) | (with_reducible apply ew_callX) | (with_reducible apply ew_call0) | (with_reducible apply ew_call) | (with_reducible apply ew_lcN))) | ((with_reducible refine' en_ofW ?_); (first | (with_reducible apply ew_call0) | (with_reducible apply ew_call))))))
local macro_rules | `(tactic| walk_at "z1") => `(tactic| (with_reducible apply eaw_nil))
local macro_rules | `(tactic| walk_at "z1") => `(tactic| (with_reducible apply eo_some))
local macro_rules | `(tactic| walk_at "z1") => `(tactic| (with_reducible apply eo_none))
local macro_rules | `(tactic| walk_at "z1") => `(tactic| (with_reducible apply eav_cons))
local macro_rules | `(tactic| walk_at "z1") => `(tactic| (with_reducible apply eav_nil))
local macro_rules | `(tactic| walk_at "z1") => `(tactic| (with_reducible apply ea_cons))
local macro_rules | `(tactic| walk_at "z1") => `(tactic| (with_reducible apply ea_nil))
local macro_rules | `(tactic| walk_at "z1") => `(tactic| (with_reducible apply et_truL))
local macro_rules | `(tactic| walk_at "z1") => `(tactic| (with_reducible apply et_yes))
local macro_rules | `(tactic| walk_at "z1") => `(tactic| (with_reducible apply et_or))
local macro_rules | `(tactic| walk_at "z1") => `(tactic| (with_reducible apply et_and))
local macro_rules | `(tactic| walk_at "z1") => `(tactic| (with_reducible apply et_not))
local macro_rules | `(tactic| walk_at "z1") => `(tactic| (with_reducible apply et_B))
local macro_rules | `(tactic| walk_at "z1") => `(tactic| (with_reducible apply et_test))
local macro_rules | `(tactic| walk_at "z1") => `(tactic| (with_reducible apply sc_drop))
local macro_rules | `(tactic| walk_at "z1") => `(tactic| ((with_reducible refine' sc_appendNew ?_); (first | (with_reducible apply en_callV) | (with_reducible apply en_call0) | (with_reducible apply en_call) | (with_reducible apply en_meth0) | (with_reducible apply en_lst) | (with_reducible apply en_slice) | (with_reducible apply en_cat) | (with_reducible apply en_rep) | (with_reducible apply en_list) | (with_reducible apply en_listRg) | (with_reducible apply en_sorted) | (with_reducible apply en_sortedP) | (with_reducible apply en_sortedR) | (with_reducible apply en_sortLen) | (with_reducible apply en_revL) | (with_reducible apply en_map) | (with_reducible apply en_lc) | (with_reducible apply en_lc2) | ((with_reducible refine' en_ixW ?_); (first | (with_reducible apply ew_dnewT) | (with_reducible apply ew_dnewK) | (with_reducible apply ew_dispI) | (with_reducible apply ew_dispT) | (with_reducible apply ew_dcT) | (with_reducible apply ew_dictLC) | (with_reducible apply ew_dcI) | ((with_reducible refine' ew_make0 (dds := []) ?zd ?_); (case zd => exact fun _ => RpL.nil)) | ((with_reducible refine' ew_make (dds := []) ?zd ?_); (case zd => exact fun _ => RpL.nil)) | (with_reducible apply ew_callX0) | (with_reducible apply ew_callX) | (with_reducible apply ew_call0) | (with_reducible apply ew_call) | (with_reducible apply ew_lcN))) | ((with_reducible refine' en_ofW ?_); (first | (with_reducible apply ew_call0) | (with_reducible apply ew_call))))))
local macro_rules | `(tactic| walk_at "z1") => `(tactic| (with_reducible apply sc_retN))
local macro_rules | `(tactic| walk_at "z1") => `(tactic| (with_reducible apply sc_ret))
local macro_rules | `(tactic| walk_at "z1") => `(tactic| ((with_reducible refine' sc_retNew ?_); (first | (with_reducible apply en_callV) | (with_reducible apply en_call0) | (with_reducible apply en_call) | (with_reducible apply en_meth0) | (with_reducible apply en_lst) | (with_reducible apply en_slice) | (with_reducible apply en_cat) | (with_reducible apply en_rep) | (with_reducible apply en_list) | (with_reducible apply en_listRg) | (with_reducible apply en_sorted) | (with_reducible apply en_sortedP) | (with_reducible apply en_sortedR) | (with_reducible apply en_sortLen) | (with_reducible apply en_revL) | (with_reducible apply en_map) | (with_reducible apply en_lc) | (with_reducible apply en_lc2) | ((with_reducible refine' en_ixW ?_); (first | (with_reducible apply ew_dnewT) | (with_reducible apply ew_dnewK) | (with_reducible apply ew_dispI) | (with_reducible apply ew_dispT) | (with_reducible apply ew_dcT) | (with_reducible apply ew_dictLC) | (with_reducible apply ew_dcI) | ((with_reducible refine' ew_make0 (dds := []) ?zd ?_); (case zd => exact fun _ => RpL.nil)) | ((with_reducible refine' ew_make (dds := []) ?zd ?_); (case zd => exact fun _ => RpL.nil)) | (with_reducible apply ew_callX0) | (with_reducible apply ew_callX) | (with_reducible apply ew_call0) | (with_reducible apply ew_call) | (with_reducible apply ew_lcN))) | ((with_reducible refine' en_ofW ?_); (first | (with_reducible apply ew_call0) | (with_reducible apply ew_call))))))
local macro_rules | `(tactic| walk_at "z1") => `(tactic| ((with_reducible refine' sc_retX ?_); (first | (with_reducible apply ew_dnewT) | (with_reducible apply ew_dnewK) | (with_reducible apply ew_dispI) | (with_reducible apply ew_dispT) | (with_reducible apply ew_dcT) | (with_reducible apply ew_dictLC) | (with_reducible apply ew_dcI) | ((with_reducible refine' ew_make0 (dds := []) ?zd ?_); (case zd => exact fun _ => RpL.nil)) | ((with_reducible refine' ew_make (dds := []) ?zd ?_); (case zd => exact fun _ => RpL.nil)) | (with_reducible apply ew_callX0) | (with_reducible apply ew_callX) | (with_reducible apply ew_call0) | (with_reducible apply ew_call) | (with_reducible apply ew_lcN) | (with_reducible apply ew_lst) | (with_reducible apply ew_tup))))
local macro_rules | `(tactic| walk_at "z1") => `(tactic| ((with_reducible refine' sc_retXN ?_); (first | (with_reducible apply en_callV) | (with_reducible apply en_call0) | (with_reducible apply en_call) | (with_reducible apply en_meth0) | (with_reducible apply en_lst) | (with_reducible apply en_slice) | (with_reducible apply en_cat) | (with_reducible apply en_rep) | (with_reducible apply en_list) | (with_reducible apply en_listRg) | (with_reducible apply en_sorted) | (with_reducible apply en_sortedP) | (with_reducible apply en_sortedR) | (with_reducible apply en_sortLen) | (with_reducible apply en_revL) | (with_reducible apply en_map) | (with_reducible apply en_lc) | (with_reducible apply en_lc2) | ((with_reducible refine' en_ixW ?_); (first | (with_reducible apply ew_dnewT) | (with_reducible apply ew_dnewK) | (with_reducible apply ew_dispI) | (with_reducible apply ew_dispT) | (with_reducible apply ew_dcT) | (with_reducible apply ew_dictLC) | (with_reducible apply ew_dcI) | ((with_reducible refine' ew_make0 (dds := []) ?zd ?_); (case zd => exact fun _ => RpL.nil)) | ((with_reducible refine' ew_make (dds := []) ?zd ?_); (case zd => exact fun _ => RpL.nil)) | (with_reducible apply ew_callX0) | (with_reducible apply ew_callX) | (with_reducible apply ew_call0) | (with_reducible apply ew_call) | (with_reducible apply ew_lcN))) | ((with_reducible refine' en_ofW ?_); (first | (with_reducible apply ew_call0) | (with_reducible apply ew_call))))))
local macro_rules | `(tactic| walk_at "z1") => `(tactic| ((with_reducible refine' sc_retXT2 ?za ?zb ?zc ?zd ?ze ?_); (case zb => exact rfl); (case zc => exact rfl); (case za => decide); (case zd => exact rfl); (case ze => exact rfl)))
local macro_rules | `(tactic| walk_at "z1") => `(tactic| ((with_reducible refine' sc_retT ?zh ?_); (case zh => exact rfl)))
local macro_rules | `(tactic| walk_at "z1") => `(tactic| ((with_reducible refine' sc_retOwn ?zh ?_); (case zh => exact rfl)))
local macro_rules | `(tactic| walk_at "z1") => `(tactic| ((with_reducible refine' sc_extL ?zh ?_); (case zh => exact rfl)))
local macro_rules | `(tactic| walk_at "z1") => `(tactic| ((with_reducible refine' sc_aug ?zh ?_); (case zh => exact rfl)))
local macro_rules | `(tactic| walk_at "z1") => `(tactic| (with_reducible apply sc_asgG))
local macro_rules | `(tactic| walk_at "z1") => `(tactic| (with_reducible apply sc_star))
local macro_rules | `(tactic| walk_at "z1") => `(tactic| (with_reducible apply sc_parDO))
local macro_rules | `(tactic| walk_at "z1") => `(tactic| ((with_reducible refine' sc_parOD ?zh ?_); (case zh => decide); (first | (with_reducible apply en_callV) | (with_reducible apply en_call0) | (with_reducible apply en_call) | (with_reducible apply en_meth0) | (with_reducible apply en_lst) | (with_reducible apply en_slice) | (with_reducible apply en_cat) | (with_reducible apply en_rep) | (with_reducible apply en_list) | (with_reducible apply en_listRg) | (with_reducible apply en_sorted) | (with_reducible apply en_sortedP) | (with_reducible apply en_sortedR) | (with_reducible apply en_sortLen) | (with_reducible apply en_revL) | (with_reducible apply en_map) | (with_reducible apply en_lc) | (with_reducible apply en_lc2) | ((with_reducible refine' en_ixW ?_); (first | (with_reducible apply ew_dnewT) | (with_reducible apply ew_dnewK) | (with_reducible apply ew_dispI) | (with_reducible apply ew_dispT) | (with_reducible apply ew_dcT) | (with_reducible apply ew_dictLC) | (with_reducible apply ew_dcI) | ((with_reducible refine' ew_make0 (dds := []) ?zd ?_); (case zd => exact fun _ => RpL.nil)) | ((with_reducible refine' ew_make (dds := []) ?zd ?_); (case zd => exact fun _ => RpL.nil)) | (with_reducible apply ew_callX0) | (with_reducible apply ew_callX) | (with_reducible apply ew_call0) | (with_reducible apply ew_call) | (with_reducible apply ew_lcN))) | ((with_reducible refine' en_ofW ?_); (first | (with_reducible apply ew_call0) | (with_reducible apply ew_call))))))
local macro_rules | `(tactic| walk_at "z1") => `(tactic| (with_reducible apply sc_par))
local macro_rules | `(tactic| walk_at "z1") => `(tactic| (with_reducible apply sc_asg))
local macro_rules | `(tactic| walk_at "z1") => `(tactic| ((with_reducible refine' sc_asgO ?_); (first | (first | (with_reducible apply en_callV) | (with_reducible apply en_call0) | (with_reducible apply en_call) | (with_reducible apply en_meth0) | (with_reducible apply en_lst) | (with_reducible apply en_slice) | (with_reducible apply en_cat) | (with_reducible apply en_rep) | (with_reducible apply en_list) | (with_reducible apply en_listRg) | (with_reducible apply en_sorted) | (with_reducible apply en_sortedP) | (with_reducible apply en_sortedR) | (with_reducible apply en_sortLen) | (with_reducible apply en_revL) | (with_reducible apply en_map) | (with_reducible apply en_lc) | (with_reducible apply en_lc2) | ((with_reducible refine' en_ixW ?_); (first | (with_reducible apply ew_dnewT) | (with_reducible apply ew_dnewK) | (with_reducible apply ew_dispI) | (with_reducible apply ew_dispT) | (with_reducible apply ew_dcT) | (with_reducible apply ew_dictLC) | (with_reducible apply ew_dcI) | ((with_reducible refine' ew_make0 (dds := []) ?zd ?_); (case zd => exact fun _ => RpL.nil)) | ((with_reducible refine' ew_make (dds := []) ?zd ?_); (case zd => exact fun _ => RpL.nil)) | (with_reducible apply ew_callX0) | (with_reducible apply ew_callX) | (with_reducible apply ew_call0) | (with_reducible apply ew_call) | (with_reducible apply ew_lcN))) | ((with_reducible refine' en_ofW ?_); (first | (with_reducible apply ew_call0) | (with_reducible apply ew_call)))) | (with_reducible refine' en_ofW (ew_callX0 ?_)) | (with_reducible refine' en_ofW (ew_callX ?_)))))
local macro_rules | `(tactic| walk_at "z1") => `(tactic| ((with_reducible refine' sc_asgT ?_); (first | (with_reducible apply ew_dnewT) | (with_reducible apply ew_dnewK) | (with_reducible apply ew_dispI) | (with_reducible apply ew_dispT) | (with_reducible apply ew_dcT) | (with_reducible apply ew_dictLC) | (with_reducible apply ew_dcI) | ((with_reducible refine' ew_make0 (dds := []) ?zd ?_); (case zd => exact fun _ => RpL.nil)) | ((with_reducible refine' ew_make (dds := []) ?zd ?_); (case zd => exact fun _ => RpL.nil)) | (with_reducible apply ew_callX0) | (with_reducible apply ew_callX) | (with_reducible apply ew_call0) | (with_reducible apply ew_call) | (with_reducible apply ew_lcN) | (with_reducible apply ew_lst) | (with_reducible apply ew_tup))))
local macro_rules | `(tactic| walk_at "z1") => `(tactic| ((with_reducible refine' sc_fldNew' ?zt ?zf ?zh ?zn ?zl ?_); (case zt => with_reducible assumption); (case zf => decide); (case zh => exact rfl); (case zn => decide); (case zl => decide); (try simp only [List.nil_append, List.cons_append])))
local macro_rules | `(tactic| walk_at "z1") => `(tactic| ((with_reducible refine' sc_augItem ?zh ?_); (case zh => exact rfl)))
local macro_rules | `(tactic| walk_at "z1") => `(tactic| ((with_reducible refine' sc_setItem ?zh ?_); (case zh => exact rfl)))
local macro_rules | `(tactic| walk_at "z1") => `(tactic| ((with_reducible refine' sc_appendTp ?zh ?_); (case zh => exact rfl)))
local macro_rules | `(tactic| walk_at "z1") => `(tactic| ((with_reducible refine' sc_appendRow ?zh ?_); (case zh => exact rfl)))
local macro_rules | `(tactic| walk_at "z1") => `(tactic| ((with_reducible refine' sc_appendNR ?zh ?zi ?_); (case zh => exact rfl); (case zi => first | (with_reducible assumption) | omega | exact Nat.le_of_ble_eq_true rfl | decide | (simp only [List.length_map, List.length_range, List.length_zipIdx, List.length_zip, List.length_append, List.length_cons, List.length_nil, List.length_set, List.length_replicate]; omega) | (refine ⟨?_, ?_⟩ <;> omega) | (refine ⟨?_, ?_, ?_⟩ <;> first | omega | decide)); (first | (with_reducible apply en_callV) | (with_reducible apply en_call0) | (with_reducible apply en_call) | (with_reducible apply en_meth0) | (with_reducible apply en_lst) | (with_reducible apply en_slice) | (with_reducible apply en_cat) | (with_reducible apply en_rep) | (with_reducible apply en_list) | (with_reducible apply en_listRg) | (with_reducible apply en_sorted) | (with_reducible apply en_sortedP) | (with_reducible apply en_sortedR) | (with_reducible apply en_sortLen) | (with_reducible apply en_revL) | (with_reducible apply en_map) | (with_reducible apply en_lc) | (with_reducible apply en_lc2) | ((with_reducible refine' en_ixW ?_); (first | (with_reducible apply ew_dnewT) | (with_reducible apply ew_dnewK) | (with_reducible apply ew_dispI) | (with_reducible apply ew_dispT) | (with_reducible apply ew_dcT) | (with_reducible apply ew_dictLC) | (with_reducible apply ew_dcI) | ((with_reducible refine' ew_make0 (dds := []) ?zd ?_); (case zd => exact fun _ => RpL.nil)) | ((with_reducible refine' ew_make (dds := []) ?zd ?_); (case zd => exact fun _ => RpL.nil)) | (with_reducible apply ew_callX0) | (with_reducible apply ew_callX) | (with_reducible apply ew_call0) | (with_reducible apply ew_call) | (with_reducible apply ew_lcN))) | ((with_reducible refine' en_ofW ?_); (first | (with_reducible apply ew_call0) | (with_reducible apply ew_call))))))
local macro_rules | `(tactic| walk_at "z1") => `(tactic| ((with_reducible refine' sc_append ?zh ?zi ?_); (case zh => exact rfl); (case zi => first | (with_reducible assumption) | omega | exact Nat.le_of_ble_eq_true rfl | decide | (simp only [List.length_map, List.length_range, List.length_zipIdx, List.length_zip, List.length_append, List.length_cons, List.length_nil, List.length_set, List.length_replicate]; omega) | (refine ⟨?_, ?_⟩ <;> omega) | (refine ⟨?_, ?_, ?_⟩ <;> first | omega | decide))))
local macro_rules | `(tactic| walk_at "z1") => `(tactic| ((with_reducible refine' sc_appPop ?zn ?zh ?zi ?zl ?_); (case zh => exact rfl); (case zi => exact rfl); (case zn => decide); (case zl => first | (with_reducible assumption) | omega | exact Nat.le_of_ble_eq_true rfl | decide | (simp only [List.length_map, List.length_range, List.length_zipIdx, List.length_zip, List.length_append, List.length_cons, List.length_nil, List.length_set, List.length_replicate]; omega) | (refine ⟨?_, ?_⟩ <;> omega) | (refine ⟨?_, ?_, ?_⟩ <;> first | omega | decide))))
local macro_rules | `(tactic| walk_at "z1") => `(tactic| (with_reducible apply sc_pool1))
local macro_rules | `(tactic| walk_at "z1") => `(tactic| (with_reducible apply sc_pool0))
local macro_rules | `(tactic| walk_at "z1") => `(tactic| (with_reducible apply sc_raise))
local macro_rules | `(tactic| walk_at "z1") => `(tactic| (with_reducible apply sc_if))
local macro_rules | `(tactic| walk_at "z1") => `(tactic| (with_reducible apply sc_next))
local macro_rules | `(tactic| walk_at "z1") => `(tactic| ((fail_if_success (with_reducible apply sc_seqI)); with_reducible apply sc_seq))
local macro_rules | `(tactic| walk_at "z1") => `(tactic| (with_reducible apply sc_seqX))
local macro_rules | `(tactic| walk_at "z1") => `(tactic| (with_reducible apply sc_seqN))
local macro_rules | `(tactic| walk_at "z1") => `(tactic| (with_reducible apply sc_seqRX))
local macro_rules | `(tactic| walk_at "z1") => `(tactic| (with_reducible apply sc_seqR))
local macro_rules | `(tactic| walk_at "z1") => `(tactic| ((with_reducible refine' sc_insert ?zh ?zi ?_); (case zh => exact rfl); (case zi => first | (with_reducible assumption) | omega | exact Nat.le_of_ble_eq_true rfl | decide | (simp only [List.length_map, List.length_range, List.length_zipIdx, List.length_zip, List.length_append, List.length_cons, List.length_nil, List.length_set, List.length_replicate]; omega) | (refine ⟨?_, ?_⟩ <;> omega) | (refine ⟨?_, ?_, ?_⟩ <;> first | omega | decide))))
local macro_rules | `(tactic| walk_at "z1") => `(tactic| (with_reducible apply sc_break))
local macro_rules | `(tactic| walk_at "z1") => `(tactic| (with_reducible apply sc_cont))
local macro_rules | `(tactic| walk_at "z1") => `(tactic| ((with_reducible refine' sc_putI ?zh ?zi ?_); (case zh => exact rfl); (case zi => first | (with_reducible assumption) | omega | exact Nat.le_of_ble_eq_true rfl | decide | (simp only [List.length_map, List.length_range, List.length_zipIdx, List.length_zip, List.length_append, List.length_cons, List.length_nil, List.length_set, List.length_replicate]; omega) | (refine ⟨?_, ?_⟩ <;> omega) | (refine ⟨?_, ?_, ?_⟩ <;> first | omega | decide))))
local macro_rules | `(tactic| walk_at "z1") => `(tactic| ((with_reducible refine' sc_putT ?zh ?zi ?_); (case zh => exact rfl); (case zi => first | (with_reducible assumption) | omega | exact Nat.le_of_ble_eq_true rfl | decide | (simp only [List.length_map, List.length_range, List.length_zipIdx, List.length_zip, List.length_append, List.length_cons, List.length_nil, List.length_set, List.length_replicate]; omega) | (refine ⟨?_, ?_⟩ <;> omega) | (refine ⟨?_, ?_, ?_⟩ <;> first | omega | decide))))
local macro_rules | `(tactic| walk_at "z1") => `(tactic| ((with_reducible refine' rd_pow ?zh ?_); (case zh => exact ⟨by decide, by decide, by decide⟩); (try simp only [Int.reduceToNat, Int.reducePow])))
local macro_rules | `(tactic| walk_at "z1") => `(tactic| ((with_reducible refine' rd_mulL ?zh ?_); (case zh => first | (with_reducible assumption) | omega | (simp only [List.length_map, List.length_range, List.length_zipIdx, List.length_zip, List.length_append, List.length_cons, List.length_nil, List.length_set, List.length_replicate]; omega))))
local macro_rules | `(tactic| walk_at "z1") => `(tactic| ((with_reducible refine' rd_mulW ?zh ?_); (case zh => with_reducible assumption)))
local macro_rules | `(tactic| walk_at "z1") => `(tactic| ((with_reducible refine' rd_mulR ?zh ?_); (case zh => first | (with_reducible assumption) | omega | (simp only [List.length_map, List.length_range, List.length_zipIdx, List.length_zip, List.length_append, List.length_cons, List.length_nil, List.length_set, List.length_replicate]; omega))))
local macro_rules | `(tactic| walk_at "z1") => `(tactic| ((with_reducible refine' rd_fdiv ?zh ?zi ?_); (case zh => first | (with_reducible assumption) | omega | (simp only [List.length_map, List.length_range, List.length_zipIdx, List.length_zip, List.length_append, List.length_cons, List.length_nil, List.length_set, List.length_replicate]; omega)); (case zi => first | (with_reducible assumption) | omega | (simp only [List.length_map, List.length_range, List.length_zipIdx, List.length_zip, List.length_append, List.length_cons, List.length_nil, List.length_set, List.length_replicate]; omega))))
local macro_rules | `(tactic| walk_at "z1") => `(tactic| ((with_reducible refine' rd_mod ?zh ?_); (case zh => first | (with_reducible assumption) | omega | (simp only [List.length_map, List.length_range, List.length_zipIdx, List.length_zip, List.length_append, List.length_cons, List.length_nil, List.length_set, List.length_replicate]; omega))))
local macro_rules | `(tactic| walk_at "z1") => `(tactic| (with_reducible apply rd_notB))
local macro_rules | `(tactic| walk_at "z1") => `(tactic| (with_reducible apply rd_isB))
local macro_rules | `(tactic| walk_at "z1") => `(tactic| (with_reducible apply rd_neDI))
local macro_rules | `(tactic| walk_at "z1") => `(tactic| (with_reducible apply rd_eqDI))
local macro_rules | `(tactic| walk_at "z1") => `(tactic| (with_reducible apply rd_neL))
local macro_rules | `(tactic| walk_at "z1") => `(tactic| (with_reducible apply rd_eqL))
local macro_rules | `(tactic| walk_at "z1") => `(tactic| (with_reducible apply rd_neB))
local macro_rules | `(tactic| walk_at "z1") => `(tactic| (with_reducible apply rd_eqB))
local macro_rules | `(tactic| walk_at "z1") => `(tactic| (with_reducible apply rd_neS))
local macro_rules | `(tactic| walk_at "z1") => `(tactic| (with_reducible apply rd_eqS))
local macro_rules | `(tactic| walk_at "z1") => `(tactic| (with_reducible apply rd_neI))
local macro_rules | `(tactic| walk_at "z1") => `(tactic| (with_reducible apply rd_eqI))
local macro_rules | `(tactic| walk_at "z1") => `(tactic| (with_reducible apply rd_bool))
local macro_rules | `(tactic| walk_at "z1") => `(tactic| (with_reducible apply rd_int))
local macro_rules | `(tactic| walk_at "z1") => `(tactic| (with_reducible apply rd_own))
local macro_rules | `(tactic| walk_at "z1") => `(tactic| (with_reducible apply ec_neg))
local macro_rules | `(tactic| walk_at "z1") => `(tactic| (with_reducible apply ec_tupOf))
local macro_rules | `(tactic| walk_at "z1") => `(tactic| (with_reducible apply ec_intB))
local macro_rules | `(tactic| walk_at "z1") => `(tactic| (with_reducible apply ec_min2))
local macro_rules | `(tactic| walk_at "z1") => `(tactic| (with_reducible apply ec_max2))
local macro_rules | `(tactic| walk_at "z1") => `(tactic| (with_reducible apply ec_abs))
local macro_rules | `(tactic| walk_at "z1") => `(tactic| (with_reducible apply ec_anyI))
local macro_rules | `(tactic| walk_at "z1") => `(tactic| (with_reducible apply ec_all))
local macro_rules | `(tactic| walk_at "z1") => `(tactic| (with_reducible apply ec_any))
local macro_rules | `(tactic| walk_at "z1") => `(tactic| (with_reducible apply ec_min))
local macro_rules | `(tactic| walk_at "z1") => `(tactic| (with_reducible apply ec_max))
local macro_rules | `(tactic| walk_at "z1") => `(tactic| (with_reducible apply ec_maxP))
local macro_rules | `(tactic| walk_at "z1") => `(tactic| (with_reducible apply ec_minP))
local macro_rules | `(tactic| walk_at "z1") => `(tactic| (with_reducible apply ec_sum))
local macro_rules | `(tactic| walk_at "z1") => `(tactic| (with_reducible apply ec_isi))
local macro_rules | `(tactic| walk_at "z1") => `(tactic| (with_reducible apply ec_isiT2))
local macro_rules | `(tactic| walk_at "z1") => `(tactic| (with_reducible apply ec_len))
local macro_rules | `(tactic| walk_at "z1") => `(tactic| (with_reducible apply ec_lenSet))
local macro_rules | `(tactic| walk_at "z1") => `(tactic| (with_reducible apply ec_repr))
local macro_rules | `(tactic| walk_at "z1") => `(tactic| (with_reducible apply ec_countD))
local macro_rules | `(tactic| walk_at "z1") => `(tactic| (with_reducible apply ec_index))
local macro_rules | `(tactic| walk_at "z1") => `(tactic| (with_reducible apply ec_lenO))
local macro_rules | `(tactic| walk_at "z1") => `(tactic| ((with_reducible refine' ec_isiO ?zh ?_); (case zh => with_reducible assumption)))
local macro_rules | `(tactic| walk_at "z1") => `(tactic| ((with_reducible refine' ec_lenT ?_); (first | ((with_reducible refine' ec_var ?zh ?_); (case zh => exact rfl)) | ((with_reducible refine' ec_varF ?zh ?_); (case zh => exact rfl))); with_reducible refine ⟨_, rfl, ?_⟩))
local macro_rules | `(tactic| walk_at "z1") => `(tactic| ((with_reducible refine' ec_lenS ?_); (first | ((with_reducible refine' ec_var ?zh ?_); (case zh => exact rfl)) | ((with_reducible refine' ec_varF ?zh ?_); (case zh => exact rfl))); refine ⟨_, rfl, ?_⟩))
local macro_rules | `(tactic| walk_at "z1") => `(tactic| ((with_reducible refine' ec_callT (i := 0) ?zh ?_); (case zh => exact rfl)))
local macro_rules | `(tactic| walk_at "z1") => `(tactic| ((with_reducible refine' ec_vwL ?zh ?zu ?_); (case zh => exact rfl)))
local macro_rules | `(tactic| walk_at "z1") => `(tactic| (with_reducible apply ec_callV))
local macro_rules | `(tactic| walk_at "z1") => `(tactic| (with_reducible apply ec_methX))
local macro_rules | `(tactic| walk_at "z1") => `(tactic| (with_reducible apply ec_meth0))
local macro_rules | `(tactic| walk_at "z1") => `(tactic| (with_reducible apply ec_call))
local macro_rules | `(tactic| walk_at "z1") => `(tactic| (with_reducible apply ec_call0))
local macro_rules | `(tactic| walk_at "z1") => `(tactic| (with_reducible apply ec_tup))
local macro_rules | `(tactic| walk_at "z1") => `(tactic| (with_reducible apply ec_notN2))
local macro_rules | `(tactic| walk_at "z1") => `(tactic| (with_reducible apply ec_isN2))
local macro_rules | `(tactic| walk_at "z1") => `(tactic| (with_reducible apply ec_if))
local macro_rules | `(tactic| walk_at "z1") => `(tactic| (with_reducible apply ec_notV))
local macro_rules | `(tactic| walk_at "z1") => `(tactic| (with_reducible apply ec_orV))
local macro_rules | `(tactic| walk_at "z1") => `(tactic| (with_reducible apply ec_andV))
local macro_rules | `(tactic| walk_at "z1") => `(tactic| (with_reducible apply ec_op))
local macro_rules | `(tactic| walk_at "z1") => `(tactic| (with_reducible apply ec_stepT))
local macro_rules | `(tactic| walk_at "z1") => `(tactic| ((with_reducible refine' ec_notNV ?_); ((with_reducible refine' ev_tre ?zh ?_); (case zh => exact rfl))))
local macro_rules | `(tactic| walk_at "z1") => `(tactic| ((with_reducible refine' ec_isNV ?_); ((with_reducible refine' ev_tre ?zh ?_); (case zh => exact rfl))))
local macro_rules | `(tactic| walk_at "z1") => `(tactic| ((with_reducible refine' ec_notInL (n := 6) ?zn ?_); (case zn => decide)))
local macro_rules | `(tactic| walk_at "z1") => `(tactic| ((with_reducible refine' ec_inL (n := 6) ?zn ?_); (case zn => decide)))
local macro_rules | `(tactic| walk_at "z1") => `(tactic| ((with_reducible refine' ec_ofW ?_); (first | (with_reducible apply ew_dispI) | (with_reducible apply ew_dispT) | (with_reducible apply ew_dcT) | (with_reducible apply ew_dictLC) | (with_reducible apply ew_dcI) | ((with_reducible refine' ew_make0 (dds := []) ?zd ?_); (case zd => exact fun _ => RpL.nil)) | ((with_reducible refine' ew_make (dds := []) ?zd ?_); (case zd => exact fun _ => RpL.nil)) | (with_reducible apply ew_callX0) | (with_reducible apply ew_callX) | (with_reducible apply ew_call0) | (with_reducible apply ew_call) | (with_reducible apply ew_lcN))))
local macro_rules | `(tactic| walk_at "z1") => `(tactic| ((with_reducible refine' ec_new ?_); (first | (with_reducible apply en_callV) | (with_reducible apply en_call0) | (with_reducible apply en_call) | (with_reducible apply en_meth0) | (with_reducible apply en_lst) | (with_reducible apply en_slice) | (with_reducible apply en_cat) | (with_reducible apply en_rep) | (with_reducible apply en_list) | (with_reducible apply en_listRg) | (with_reducible apply en_sorted) | (with_reducible apply en_sortedP) | (with_reducible apply en_sortedR) | (with_reducible apply en_sortLen) | (with_reducible apply en_revL) | (with_reducible apply en_map) | (with_reducible apply en_lc) | (with_reducible apply en_lc2) | ((with_reducible refine' en_ixW ?_); (first | (with_reducible apply ew_dnewT) | (with_reducible apply ew_dnewK) | (with_reducible apply ew_dispI) | (with_reducible apply ew_dispT) | (with_reducible apply ew_dcT) | (with_reducible apply ew_dictLC) | (with_reducible apply ew_dcI) | ((with_reducible refine' ew_make0 (dds := []) ?zd ?_); (case zd => exact fun _ => RpL.nil)) | ((with_reducible refine' ew_make (dds := []) ?zd ?_); (case zd => exact fun _ => RpL.nil)) | (with_reducible apply ew_callX0) | (with_reducible apply ew_callX) | (with_reducible apply ew_call0) | (with_reducible apply ew_call) | (with_reducible apply ew_lcN))) | ((with_reducible refine' en_ofW ?_); (first | (with_reducible apply ew_call0) | (with_reducible apply ew_call))))))
local macro_rules | `(tactic| walk_at "z1") => `(tactic| (with_reducible apply ec_chain))
local macro_rules | `(tactic| walk_at "z1") => `(tactic| (with_reducible apply ec_ixT))
local macro_rules | `(tactic| walk_at "z1") => `(tactic| (with_reducible apply ec_ix))
local macro_rules | `(tactic| walk_at "z1") => `(tactic| ((with_reducible refine' ec_xf ?zh ?_); (case zh => exact rfl)))
local macro_rules | `(tactic| walk_at "z1") => `(tactic| (with_reducible apply ec_fld))
local macro_rules | `(tactic| walk_at "z1") => `(tactic| ((with_reducible refine' ec_fldO' ?zt ?zf ?zh ?zl ?_); (case zt => with_reducible assumption); (case zf => decide); (case zh => exact rfl); (case zl => exact rfl)))
local macro_rules | `(tactic| walk_at "z1") => `(tactic| ((with_reducible refine' ec_ixScr ?_); (first | ((with_reducible refine' ec_var ?zh ?_); (case zh => exact rfl)) | ((with_reducible refine' ec_varF ?zh ?_); (case zh => exact rfl))); refine ⟨_, rfl, ?_⟩))
local macro_rules | `(tactic| walk_at "z1") => `(tactic| ((with_reducible refine' ec_pool1 ?_); (first | ((with_reducible refine' ec_var ?zh ?_); (case zh => exact rfl)) | ((with_reducible refine' ec_varF ?zh ?_); (case zh => exact rfl))); refine ⟨rfl, ?_⟩; intro zz zz0 zz1))
local macro_rules | `(tactic| walk_at "z1") => `(tactic| ((with_reducible refine' ec_pool0 ?_); (first | ((with_reducible refine' ec_var ?zh ?_); (case zh => exact rfl)) | ((with_reducible refine' ec_varF ?zh ?_); (case zh => exact rfl))); refine ⟨rfl, ?_⟩; intro zz))
local macro_rules | `(tactic| walk_at "z1") => `(tactic| ((with_reducible refine' ec_inTup (n := 6) ?zn ?_); (case zn => decide)))
local macro_rules | `(tactic| walk_at "z1") => `(tactic| ((with_reducible refine' ec_getI ?zh ?_); (case zh => exact rfl)))
local macro_rules | `(tactic| walk_at "z1") => `(tactic| ((with_reducible refine' ec_notInI ?zh ?_); (case zh => exact rfl)))
local macro_rules | `(tactic| walk_at "z1") => `(tactic| ((with_reducible refine' ec_inI ?zh ?_); (case zh => exact rfl)))
local macro_rules | `(tactic| walk_at "z1") => `(tactic| ((with_reducible refine' ec_lenT' ?zh ?_); (case zh => exact rfl)))
local macro_rules | `(tactic| walk_at "z1") => `(tactic| ((with_reducible refine' ec_getT ?zh ?_); (case zh => exact rfl)))
local macro_rules | `(tactic| walk_at "z1") => `(tactic| ((with_reducible refine' ec_notInTV ?zh ?_); (case zh => exact rfl)))
local macro_rules | `(tactic| walk_at "z1") => `(tactic| ((with_reducible refine' ec_inTV ?zh ?_); (case zh => exact rfl)))
local macro_rules | `(tactic| walk_at "z1") => `(tactic| ((with_reducible refine' ec_notInT ?zh ?_); (case zh => exact rfl)))
local macro_rules | `(tactic| walk_at "z1") => `(tactic| ((with_reducible refine' ec_inT ?zh ?_); (case zh => exact rfl)))
local macro_rules | `(tactic| walk_at "z1") => `(tactic| (with_reducible apply ec_val))
local macro_rules | `(tactic| walk_at "z1") => `(tactic| ((with_reducible refine' ec_lit ?zl ?_); (case zl => with_reducible assumption)))
local macro_rules | `(tactic| walk_at "z1") => `(tactic| (with_reducible apply ec_non))
local macro_rules | `(tactic| walk_at "z1") => `(tactic| (with_reducible apply ec_str))
local macro_rules | `(tactic| walk_at "z1") => `(tactic| (with_reducible apply ec_bl))
local macro_rules | `(tactic| walk_at "z1") => `(tactic| (with_reducible apply ec_int))
local macro_rules | `(tactic| walk_at "z1") => `(tactic| (first | ((with_reducible refine' ec_var ?zh ?_); (case zh => exact rfl)) | ((with_reducible refine' ec_varF ?zh ?_); (case zh => exact rfl))))
local macro_rules | `(tactic| walk_at "z") => `(tactic| repeat (walk_at "z1"))
local macro_rules | `(tactic| walk_at "side") => `(tactic| first | (with_reducible assumption) | omega | exact Nat.le_of_ble_eq_true rfl | decide | (simp only [List.length_map, List.length_range, List.length_zipIdx, List.length_zip, List.length_append, List.length_cons, List.length_nil, List.length_set, List.length_replicate]; omega) | (refine ⟨?_, ?_⟩ <;> omega) | (refine ⟨?_, ?_, ?_⟩ <;> first | omega | decide))
local macro_rules | `(tactic| walk_at "uq") => `(tactic| simp only [ums_cons, ums_nil, um_gr, um_ints, um_int])
section
variable [PC]

/-! data by their kinds -/
def _root_.Z.D.isI : D → Bool
  | .int _ => true
  | _ => false
def _root_.Z.D.inI (a b : Int) : D → Bool
  | .int i => decide (a ≤ i) && decide (i ≤ b)
  | _ => false
def _root_.Z.D.kd (d : D) : Prop := ∃ t, d.kind = some t
abbrev iL (ns : List Int) : D := .lst (ns.map D.int)
theorem isi_ni : kitB "NoneType" "int" = some false := by decide +kernel
theorem isi_si : kitB "str" "int" = some false := by decide +kernel
theorem isi_li : kitB "list" "int" = some false := by decide +kernel
theorem isi_ti : kitB "tuple" "int" = some false := by decide +kernel
theorem isi_di : kitB "dict" "int" = some false := by decide +kernel
theorem isi_nl : kitB "NoneType" "list" = some false := by decide +kernel
theorem isi_bl : kitB "bool" "list" = some false := by decide +kernel
theorem isi_il : kitB "int" "list" = some false := by decide +kernel
theorem isi_sl : kitB "str" "list" = some false := by decide +kernel
theorem isi_tl : kitB "tuple" "list" = some false := by decide +kernel
theorem isi_dl : kitB "dict" "list" = some false := by decide +kernel
theorem isi_nt : kitB "NoneType" "tuple" = some false := by decide +kernel
theorem isi_bt : kitB "bool" "tuple" = some false := by decide +kernel
theorem isi_it : kitB "int" "tuple" = some false := by decide +kernel
theorem isi_st : kitB "str" "tuple" = some false := by decide +kernel
theorem isi_lt : kitB "list" "tuple" = some false := by decide +kernel
theorem isi_tt : kitB "tuple" "tuple" = some true := by decide +kernel
theorem isi_dt : kitB "dict" "tuple" = some false := by decide +kernel
def _root_.Z.D.isL : D → Bool
  | .lst _ => true
  | _ => false
def _root_.Z.D.isT : D → Bool
  | .tup _ => true
  | _ => false
theorem kind_int {d : D} (h : d.kd) : ∃ t b c, d.kind = some t ∧ kitB t "int" = some b ∧ kitB t "bool" = some c ∧ (b && !c) = d.isI := by
  obtain ⟨t, h⟩ := h
  cases d <;> cases h
  · exact ⟨_, _, false, rfl, isi_ni, by decide +kernel, rfl⟩
  · exact ⟨_, _, _, rfl, isi_bi, isi_bb, rfl⟩
  · exact ⟨_, _, _, rfl, isi_ii, isi_ib, rfl⟩
  · exact ⟨_, _, false, rfl, isi_si, by decide +kernel, rfl⟩
  · exact ⟨_, _, false, rfl, isi_li, by decide +kernel, rfl⟩
  · exact ⟨_, _, false, rfl, isi_ti, by decide +kernel, rfl⟩
  · exact ⟨_, _, false, rfl, isi_di, by decide +kernel, rfl⟩
theorem kind_list {d : D} (h : d.kd) : ∃ t b, d.kind = some t ∧ kitB t "list" = some b ∧ b = d.isL := by
  obtain ⟨t, h⟩ := h
  cases d <;> cases h
  · exact ⟨_, _, rfl, isi_nl, rfl⟩
  · exact ⟨_, _, rfl, isi_bl, rfl⟩
  · exact ⟨_, _, rfl, isi_il, rfl⟩
  · exact ⟨_, _, rfl, isi_sl, rfl⟩
  · exact ⟨_, _, rfl, isi_ll, rfl⟩
  · exact ⟨_, _, rfl, isi_tl, rfl⟩
  · exact ⟨_, _, rfl, isi_dl, rfl⟩
theorem kind_tup {d : D} (h : d.kd) : ∃ t b, d.kind = some t ∧ kitB t "tuple" = some b ∧ b = d.isT := by
  obtain ⟨t, h⟩ := h
  cases d <;> cases h
  · exact ⟨_, _, rfl, isi_nt, rfl⟩
  · exact ⟨_, _, rfl, isi_bt, rfl⟩
  · exact ⟨_, _, rfl, isi_it, rfl⟩
  · exact ⟨_, _, rfl, isi_st, rfl⟩
  · exact ⟨_, _, rfl, isi_lt, rfl⟩
  · exact ⟨_, _, rfl, isi_tt, rfl⟩
  · exact ⟨_, _, rfl, isi_dt, rfl⟩
theorem kd_int (i : Int) : D.kd (.int i) := ⟨_, rfl⟩
theorem inI_isI {a b : Int} {d : D} (h : d.inI a b = true) : ∃ i, d = .int i ∧ a ≤ i ∧ i ≤ b := by
  cases d <;> first | cases h | skip
  rename_i i
  unfold D.inI at h
  rw [Bool.and_eq_true, decide_eq_true_eq, decide_eq_true_eq] at h
  exact ⟨i, rfl, h⟩
def wpIsInt : WP := fun ds q _ => ∃ d, ds = [d] ∧ d.kd ∧ q (.bl d.isI)
def wpWithin : WP := fun ds q _ => ∃ (d : D) (a b : Int), ds = [d, .int a, .int b] ∧ d.kd ∧ q (.bl (d.inI a b))
/-- the pair of an edge -/
def _root_.Z.D.edge (n : Int) : D → Option (Int × Int)
  | .tup [.int a, .int b] => if 0 ≤ a ∧ a < n ∧ 0 ≤ b ∧ b < n ∧ a ≠ b then some (a, b) else none
  | _ => none
def _root_.Z.D.kds : D → Prop
  | .tup es => ∀ e ∈ es, e.kd
  | _ => True
def wpIsEdge : WP := fun ds q _ => ∃ (d : D) (n : Int), ds = [d, .int n] ∧ d.kd ∧ d.kds ∧ q (.bl (d.edge n).isSome)
def mm (p : Int × Int) : Int × Int := (min p.1 p.2, max p.1 p.2)
/-- the edges, one after the other -/
def chkE (n : Int) : List D → List (Int × Int) → Except D (List (Int × Int))
  | [], acc => .ok acc
  | d :: ds, acc => match d.edge n with
    | none => .error d
    | some p => if mm p ∈ acc then .error d else chkE n ds (acc ++ [mm p])
def wpCE (CE CT : Addr) : WPN := fun ds q kx => ∃ (n : Int) (e : D), ds = [.int n, e] ∧ e.kd ∧ match e with
  | .lst es => (∀ d ∈ es, d.kd ∧ d.kds) ∧ es.length ≤ 1000 ∧ (match chkE n es [] with
    | .error d => kx CE d
    | .ok l => if 40 < l.length then kx CT (.int l.length) else ∀ s : List (Int × Int), s.Perm l → s.Pairwise lexLe → q (s.map pD))
  | .tup _ => False
  | d => kx CE d
theorem edge_some {n : Int} {d : D} {p : Int × Int} (h : d.edge n = some p) : d = pD p ∧ 0 ≤ p.1 ∧ p.1 < n ∧ 0 ≤ p.2 ∧ p.2 < n ∧ p.1 ≠ p.2 := by
  unfold D.edge at h
  split at h
  · split at h
    · cases h
      rename_i a b hc
      exact ⟨rfl, hc⟩
    · cases h
  · cases h
theorem chk_step {n : Int} {es : List D} {i : Nat} {d : D} {acc : List (Int × Int)} (h : es[i]? = some d) : chkE n (es.drop i) acc = match d.edge n with
    | none => .error d
    | some p => if mm p ∈ acc then .error d else chkE n (es.drop (i + 1)) (acc ++ [mm p]) := by
  rw [List.drop_eq_getElem_cons (List.getElem?_eq_some_iff.mp h).1, (List.getElem?_eq_some_iff.mp h).2]
  rfl
/-! the graph -/
def ndL (n : Nat) : List Int := (List.range n).map fun i : Nat => (i : Int)
def adj (es : List (Int × Int)) (a b : Int) : Bool := es.contains (a, b) || es.contains (b, a)
def nbs (n : Nat) (es : List (Int × Int)) (v : Int) : List Int := (ndL n).filter (adj es v)
def lkOf (n : Nat) (es : List (Int × Int)) : List (List Int) := (ndL n).map (nbs n es)
abbrev grM (m : D) (C : Addr) (n : Nat) (es : List (Int × Int)) : D := .ins C ["own_size", "own_edges", "memo", "links"] [.int n, .lst (es.map pD), m, .lst ((lkOf n es).map iL)]
abbrev grD (C : Addr) (n : Nat) (es : List (Int × Int)) : D := .ins C ["own_size", "own_edges", "memo", "links"] [.int n, .lst (es.map pD), .memo (PC.mm C n es), .lst ((lkOf n es).map iL)]
theorem um_pD (p : Int × Int) : (pD p).um = pD p := by
  unfold pD
  rw [um_tup, ums_cons, ums_cons, ums_nil, um_int, um_int]
theorem um_gr {C : Addr} {n : Nat} {es : List (Int × Int)} : (grD C n es).um = grM .any C n es := by
  unfold grD grM
  rw [um_ins, ums_cons, ums_cons, ums_cons, ums_cons, ums_nil, um_int, um_lst, um_memo, um_lst, ums_map um_pD, ums_map fun x => um_ints x]
structure GOk (n : Nat) (es : List (Int × Int)) : Prop where
  n1 : 1 ≤ n
  n2 : n ≤ 16
  len : es.length ≤ 40
  mem : ∀ p ∈ es, 0 ≤ p.1 ∧ p.1 < p.2 ∧ p.2 < n
  nod : es.Nodup
  srt : es.Pairwise lexLe
theorem mem_ndL {n : Nat} {v : Int} : v ∈ ndL n ↔ 0 ≤ v ∧ v < n := by
  unfold ndL
  rw [List.mem_map]
  constructor
  · rintro ⟨i, hi, rfl⟩
    rw [List.mem_range] at hi
    omega
  · rintro ⟨h1, h2⟩
    exact ⟨v.toNat, List.mem_range.mpr (by omega), by omega⟩
theorem ndL_get {n i : Nat} (h : i < n) : (ndL n)[i]? = some (i : Int) := by
  unfold ndL
  rw [List.getElem?_map, List.getElem?_range h]
  rfl
theorem ndL_len (n : Nat) : (ndL n).length = n := by
  unfold ndL
  rw [List.length_map, List.length_range]
theorem ndL_lt (n : Nat) : (ndL n).Pairwise (· < ·) := by
  unfold ndL
  rw [List.pairwise_map]
  exact List.pairwise_lt_range.imp fun h => by omega
theorem lkOf_len (n : Nat) (es : List (Int × Int)) : (lkOf n es).length = n := by
  unfold lkOf
  rw [List.length_map, ndL_len]
theorem lkOf_get {n i : Nat} {es : List (Int × Int)} (h : i < n) : (lkOf n es)[i]? = some (nbs n es i) := by
  unfold lkOf
  rw [List.getElem?_map, ndL_get h]
  rfl
theorem adj_iff {es : List (Int × Int)} {a b : Int} : adj es a b = true ↔ (a, b) ∈ es ∨ (b, a) ∈ es := by
  unfold adj
  rw [Bool.or_eq_true, List.contains_iff_mem, List.contains_iff_mem]
theorem mem_nbs {n : Nat} {es : List (Int × Int)} {v w : Int} : w ∈ nbs n es v ↔ (0 ≤ w ∧ w < n) ∧ adj es v w = true := by
  unfold nbs
  rw [List.mem_filter, mem_ndL]
theorem nbs_lt (n : Nat) (es : List (Int × Int)) (v : Int) : (nbs n es v).Pairwise (· < ·) := (ndL_lt n).filter _
theorem lt_nodup {l : List Int} (h : l.Pairwise (· < ·)) : l.Nodup := h.imp fun h => by omega
/-- what is written at a node, edge by edge -/
def inc (es : List (Int × Int)) (v : Int) : List Int := es.filterMap fun p => if p.1 = v then some p.2 else if p.2 = v then some p.1 else none
theorem inc_snoc (es : List (Int × Int)) (p : Int × Int) (v : Int) : inc (es ++ [p]) v = inc es v ++ (if p.1 = v then [p.2] else if p.2 = v then [p.1] else []) := by
  unfold inc
  rw [List.filterMap_append]
  congr 1
  rw [List.filterMap_cons, List.filterMap_nil]
  split
  · rename_i h
    split at h
    · cases h
    · rename_i h1
      split at h
      · cases h
      · rename_i h2
        rw [if_neg h1, if_neg h2]
  · rename_i h
    split at h
    · cases h
      rename_i h1
      rw [if_pos h1]
    · rename_i h1
      split at h
      · cases h
        rename_i h2
        rw [if_neg h1, if_pos h2]
      · cases h
theorem mem_inc {es : List (Int × Int)} (hne : ∀ p ∈ es, p.1 ≠ p.2) {v w : Int} : w ∈ inc es v ↔ (v, w) ∈ es ∨ (w, v) ∈ es := by
  unfold inc
  rw [List.mem_filterMap]
  constructor
  · rintro ⟨p, hp, h⟩
    split at h
    · rename_i h1
      cases h
      left
      rw [← h1]
      exact hp
    · split at h
      · rename_i h1
        cases h
        right
        rw [← h1]
        exact hp
      · cases h
  · rintro (h | h)
    · exact ⟨(v, w), h, by rw [if_pos rfl]⟩
    · refine ⟨(w, v), h, ?_⟩
      have := hne _ h
      rw [if_neg this, if_pos rfl]
theorem inc_nodup {v : Int} : ∀ {es : List (Int × Int)}, es.Nodup → (∀ p ∈ es, p.1 < p.2) → (inc es v).Nodup
  | [], _, _ => List.nodup_nil
  | p :: es, hn, h => by
    have ih := inc_nodup (v := v) (List.nodup_cons.mp hn).2 fun q hq => h q (List.mem_cons_of_mem _ hq)
    have hp := h p List.mem_cons_self
    have hne : ∀ q ∈ es, q.1 ≠ q.2 := fun q hq => by have := h q (List.mem_cons_of_mem _ hq); omega
    unfold inc
    rw [List.filterMap_cons]
    split
    · exact ih
    · rename_i w hw
      refine List.nodup_cons.mpr ⟨fun hm => ?_, ih⟩
      have hm' := (mem_inc (v := v) (w := w) hne).mp hm
      have hnp := (List.nodup_cons.mp hn).1
      split at hw
      · rename_i h1
        cases hw
        subst h1
        rcases hm' with z | z
        · exact hnp z
        · have := h _ (List.mem_cons_of_mem _ z)
          dsimp only at this
          omega
      · split at hw
        · rename_i h1 h2
          cases hw
          subst h2
          rcases hm' with z | z
          · have := h _ (List.mem_cons_of_mem _ z)
            dsimp only at this
            omega
          · exact hnp z
        · cases hw
theorem sorted_row {n : Nat} {es : List (Int × Int)} {v : Int} {s : List Int} (g : ∀ p ∈ es, 0 ≤ p.1 ∧ p.1 < p.2 ∧ p.2 < n) (hn : es.Nodup) (hp : s.Perm (inc es v)) (hs : s.Pairwise (· ≤ ·)) : s = nbs n es v := by
  have hne : ∀ p ∈ es, p.1 ≠ p.2 := fun p h => by have := g p h; omega
  have h1 : (inc es v).Perm (nbs n es v) := by
    rw [List.perm_ext_iff_of_nodup (inc_nodup hn fun p h => (g p h).2.1) (lt_nodup (nbs_lt n es v))]
    intro w
    rw [mem_inc hne, mem_nbs, adj_iff]
    constructor
    · intro h
      refine ⟨?_, h⟩
      rcases h with h | h
      · have := g _ h
        dsimp only at this
        omega
      · have := g _ h
        dsimp only at this
        omega
    · exact fun h => h.2
  exact (hp.trans h1).eq_of_pairwise (le := (· ≤ ·)) (fun a b _ _ h1 h2 => by omega) hs ((nbs_lt n es v).imp fun h => by omega)
/-- the rows after some edges -/
def rowsAt (n : Nat) (es : List (Int × Int)) : List (List D) := (ndL n).map fun v => (inc es v).map D.int
theorem rowsAt_len (n : Nat) (es : List (Int × Int)) : (rowsAt n es).length = n := by
  unfold rowsAt
  rw [List.length_map, ndL_len]
theorem rowsAt_get {n i : Nat} {es : List (Int × Int)} (h : i < n) : (rowsAt n es)[i]? = some ((inc es i).map D.int) := by
  unfold rowsAt
  rw [List.getElem?_map, ndL_get h]
  rfl
theorem ixN_nat {n : Nat} {z : Int} (h0 : 0 ≤ z) (h1 : z < n) : ixN n z = some z.toNat := by
  unfold ixN
  first
    | (rw [if_pos ⟨by omega, by omega⟩]; done)
    | simp_all
theorem rows_step {n : Nat} {es : List (Int × Int)} {p : Int × Int} (h0 : 0 ≤ p.1) (h1 : p.1 < p.2) (h2 : p.2 < n) :
    ((rowsAt n es).set p.1.toNat ((inc es p.1).map D.int ++ [.int p.2])).set p.2.toNat ((inc es p.2).map D.int ++ [.int p.1]) = rowsAt n (es ++ [p]) := by
  apply List.ext_getElem?
  intro i
  by_cases hi : i < n
  · rw [rowsAt_get hi, inc_snoc]
    by_cases e2 : p.2.toNat = i
    · have e2' : p.2 = (i : Int) := by omega
      have n1 : ¬ p.1 = (i : Int) := by omega
      rw [← e2, List.getElem?_set_self (by rw [List.length_set, rowsAt_len]; omega), e2, if_neg n1, if_pos e2', e2', List.map_append]
      rfl
    · rw [List.getElem?_set_ne e2]
      by_cases e1 : p.1.toNat = i
      · have e1' : p.1 = (i : Int) := by omega
        rw [← e1, List.getElem?_set_self (by rw [rowsAt_len]; omega), e1, if_pos e1', e1', List.map_append]
        rfl
      · have n1 : ¬ p.1 = (i : Int) := by omega
        have n2 : ¬ p.2 = (i : Int) := by omega
        rw [List.getElem?_set_ne e1, rowsAt_get hi, if_neg n1, if_neg n2, List.append_nil]
  · rw [List.getElem?_eq_none (by rw [List.length_set, List.length_set, rowsAt_len]; omega), List.getElem?_eq_none (by rw [rowsAt_len]; omega)]

theorem chk_ok {n : Int} : ∀ {ds : List D} {acc l : List (Int × Int)}, chkE n ds acc = .ok l → (∀ p ∈ acc, 0 ≤ p.1 ∧ p.1 < p.2 ∧ p.2 < n) → acc.Nodup → (∀ p ∈ l, 0 ≤ p.1 ∧ p.1 < p.2 ∧ p.2 < n) ∧ l.Nodup
  | [], acc, l, h, h1, h2 => by
    cases h
    exact ⟨h1, h2⟩
  | d :: ds, acc, l, h, h1, h2 => by
    unfold chkE at h
    split at h
    · cases h
    · rename_i p hp
      split at h
      · cases h
      · rename_i hm
        obtain ⟨_, c1, c2, c3, c4, c5⟩ := edge_some hp
        refine chk_ok h (fun r hr => ?_) (List.nodup_append.mpr ⟨h2, by simp, fun a ha b hb z => ?_⟩)
        · rcases List.mem_append.mp hr with z | z
          · exact h1 r z
          · rw [List.mem_singleton.mp z]
            unfold mm
            dsimp only
            omega
        · rw [List.mem_singleton.mp hb] at z
          rw [z] at ha
          exact hm ha
theorem lexLe_perm {s l : List (Int × Int)} (h : s.Perm l) (h1 : ∀ p ∈ l, 0 ≤ p.1 ∧ p.1 < p.2 ∧ p.2 < n) (h2 : l.Nodup) : (∀ p ∈ s, 0 ≤ p.1 ∧ p.1 < p.2 ∧ p.2 < n) ∧ s.Nodup := ⟨fun p hp => h1 p (h.mem_iff.mp hp), h.nodup_iff.mpr h2⟩
theorem ce_mono {CE CT : Addr} {n : Nat} {e : D} {q q' : List D → Prop} {kx : Addr → D → Prop} (hn1 : 1 ≤ n) (hn2 : n ≤ 16) (h : wpCE CE CT [.int n, e] q kx) (hq : ∀ s : List (Int × Int), GOk n s → q (s.map pD) → q' (s.map pD)) : wpCE CE CT [.int n, e] q' kx := by
  obtain ⟨n', e', he, hk, h⟩ := h
  cases he
  refine ⟨n, e, rfl, hk, ?_⟩
  cases e with
  | lst es =>
    obtain ⟨h1, h2, h3⟩ := h
    refine ⟨h1, h2, ?_⟩
    cases hc : chkE n es [] with
    | error d =>
      rw [hc] at h3
      exact h3
    | ok l =>
      rw [hc] at h3
      have h3 : if 40 < l.length then kx CT (.int l.length) else ∀ s : List (Int × Int), s.Perm l → s.Pairwise lexLe → q (s.map pD) := h3
      show if 40 < l.length then kx CT (.int l.length) else ∀ s : List (Int × Int), s.Perm l → s.Pairwise lexLe → q' (s.map pD)
      obtain ⟨v1, v2⟩ := chk_ok hc (fun _ h => nomatch h) List.nodup_nil
      by_cases hl : 40 < l.length
      · rw [if_pos hl] at h3 ⊢
        exact h3
      · rw [if_neg hl] at h3 ⊢
        intro s hp hs
        exact hq s ⟨hn1, hn2, by rw [hp.length_eq]; omega, fun p hm => v1 p (hp.mem_iff.mp hm), hp.nodup_iff.mpr v2, hs⟩ (h3 s hp hs)
  | _ => exact h
abbrev grO (a C : Addr) (n : Nat) (es : List (Int × Int)) : O := .ins a C ["own_size", "own_edges", "memo", "links"] [.fz (.int n), .fz (.lst (es.map pD)), .fz (.memo (PC.mm C n es)), .fz (.lst ((lkOf n es).map iL))]
theorem grO_d (a C : Addr) (n : Nat) (es : List (Int × Int)) : (grO a C n es).d = grD C n es := by
  unfold grO grD
  rw [O.d, O.ds, O.ds, O.ds, O.ds, O.ds, O.d, O.d, O.d, O.d]
def wpGI (CG CS CE CT : Addr) : WPI := fun ds q kx => ∃ s e : D, ds = [s, e] ∧ s.kd ∧ (s.inI 1 16 = false → kx CS s) ∧ (s.inI 1 16 = true → ∃ n : Nat, s = .int n ∧ wpCE CE CT [.int n, e] (fun ds' => ∀ es : List (Int × Int), GOk n es → ds' = es.map pD → ∀ a, q (grO a CG n es)) kx)
/-! flipping -/
def at_ (x : List Int) (j : Int) : Int := x.getD j.toNat 0
def flipF (n : Nat) (es : List (Int × Int)) (x : List Int) (v : Int) : List Int := (ndL n).map fun j => if j = v then 0 - at_ x v else if adj es v j then at_ x j + at_ x v else at_ x j
def flipP (n : Nat) (x : List Int) (v : Int) (l : List Int) : List Int := (ndL n).map fun j => if j ∈ l then at_ x j + at_ x v else at_ x j
theorem at_get {x : List Int} {j : Nat} (h : j < x.length) : x[j]? = some (at_ x j) := by
  unfold at_
  rw [List.getElem?_eq_getElem h, List.getD_eq_getElem?_getD, show ((j : Int)).toNat = j by omega, List.getElem?_eq_getElem h]
  rfl
theorem flipP_nil {n : Nat} {x : List Int} {v : Int} (h : x.length = n) : flipP n x v [] = x := by
  apply List.ext_getElem?
  intro i
  unfold flipP
  by_cases hi : i < n
  · rw [List.getElem?_map, ndL_get hi, at_get (by omega)]
    simp
  · rw [List.getElem?_eq_none (by rw [List.length_map, ndL_len]; omega), List.getElem?_eq_none (by omega)]
theorem flipP_len (n : Nat) (x : List Int) (v : Int) (l : List Int) : (flipP n x v l).length = n := by
  unfold flipP
  rw [List.length_map, ndL_len]
theorem flipP_get {n i : Nat} {x : List Int} {v : Int} {l : List Int} (h : i < n) : (flipP n x v l)[i]? = some (if (i : Int) ∈ l then at_ x i + at_ x v else at_ x i) := by
  unfold flipP
  rw [List.getElem?_map, ndL_get h]
  rfl
theorem flipP_snoc {n : Nat} {x : List Int} {v w : Int} {l : List Int} (h0 : 0 ≤ w) (h1 : w < n) (hw : w ∉ l) : (flipP n x v l).set w.toNat (at_ x w + at_ x v) = flipP n x v (l ++ [w]) := by
  apply List.ext_getElem?
  intro i
  by_cases hi : i < n
  · by_cases e : w.toNat = i
    · have e' : w = (i : Int) := by omega
      rw [← e, List.getElem?_set_self (by rw [flipP_len]; omega), e, flipP_get hi, if_pos (by rw [e']; simp), e']
    · rw [List.getElem?_set_ne e, flipP_get hi, flipP_get hi]
      have e' : ¬ (i : Int) = w := by omega
      have : (i : Int) ∈ l ++ [w] ↔ (i : Int) ∈ l := by simp [e']
      by_cases hm : (i : Int) ∈ l
      · rw [if_pos hm, if_pos (this.mpr hm)]
      · rw [if_neg hm, if_neg fun z => hm (this.mp z)]
  · rw [List.getElem?_eq_none (by rw [List.length_set, flipP_len]; omega), List.getElem?_eq_none (by rw [flipP_len]; omega)]
theorem flip_end {n : Nat} {es : List (Int × Int)} {x : List Int} {v : Int} (h0 : 0 ≤ v) (h1 : v < n) : (flipP n x v (nbs n es v)).set v.toNat (0 - at_ x v) = flipF n es x v := by
  apply List.ext_getElem?
  intro i
  unfold flipF
  by_cases hi : i < n
  · rw [List.getElem?_map, ndL_get hi]
    by_cases e : v.toNat = i
    · have e' : (i : Int) = v := by omega
      rw [← e, List.getElem?_set_self (by rw [flipP_len]; omega), e]
      simp [e']
    · have e' : ¬ (i : Int) = v := by omega
      rw [List.getElem?_set_ne e, flipP_get hi]
      simp only [Option.map_some, if_neg e']
      by_cases hm : (i : Int) ∈ nbs n es v
      · rw [if_pos hm, if_pos (mem_nbs.mp hm).2]
      · rw [if_neg hm, if_neg fun z => hm (mem_nbs.mpr ⟨⟨by omega, by omega⟩, z⟩)]
  · rw [List.getElem?_eq_none (by rw [List.length_set, flipP_len]; omega), List.getElem?_eq_none (by rw [List.length_map, ndL_len]; omega)]
theorem flipF_len (n : Nat) (es : List (Int × Int)) (x : List Int) (v : Int) : (flipF n es x v).length = n := by
  unfold flipF
  rw [List.length_map, ndL_len]
def wpFlip (CG : Addr) : WPN := fun ds q _ => ∃ (m : D) (n : Nat) (es : List (Int × Int)) (x : List Int) (v : Int), ds = [grM m CG n es, iL x, .int v] ∧ GOk n es ∧ x.length = n ∧ 0 ≤ v ∧ v < n ∧ q ((flipF n es x v).map .int)
def wpSize (CG : Addr) : WP := fun ds q _ => ∃ (n : Nat) (es : List (Int × Int)), ds = [grD CG n es] ∧ q (.int n)
def wpEdges (CG : Addr) : WPN := fun ds q _ => ∃ (n : Nat) (es : List (Int × Int)), ds = [grD CG n es] ∧ q (es.map pD)
def _root_.Z.D.isPos (n : Nat) : D → Bool
  | .lst ds => decide (ds.length = n) && ds.all D.isI
  | _ => false
def _root_.Z.D.kdL : D → Prop
  | .lst es => es.length ≤ 1000 ∧ ∀ e ∈ es, e.kd
  | _ => True
def wpIsPos (CG : Addr) : WP := fun ds q _ => ∃ (n : Nat) (es : List (Int × Int)) (d : D), ds = [grD CG n es, d] ∧ d.kd ∧ d.kdL ∧ q (.bl (d.isPos n))
def wpCheckPos (CG CP : Addr) : WP := fun ds q kx => ∃ (n : Nat) (es : List (Int × Int)) (d : D), ds = [grD CG n es, d] ∧ d.kd ∧ d.kdL ∧ (d.isPos n = true → q .non) ∧ (d.isPos n = false → kx CP d)
theorem isPos_iL {n : Nat} {x : List Int} (h : x.length = n) : (iL x).isPos n = true := by
  show (decide ((x.map D.int).length = n) && (x.map D.int).all D.isI) = true
  rw [decide_eq_true (by rw [List.length_map]; exact h), List.all_map]
  simp [D.isI]
theorem kdL_iL {x : List Int} (h : x.length ≤ 1000) : (iL x).kdL := by
  refine ⟨by rw [List.length_map]; exact h, fun e he => ?_⟩
  obtain ⟨i, _, rfl⟩ := List.mem_map.mp he
  exact kd_int i
theorem kd_iL (x : List Int) : (iL x).kd := ⟨_, rfl⟩

def _root_.Z.D.toI : D → Int
  | .int i => i
  | _ => 0
theorem isPos_inv {n : Nat} {d : D} (h : d.isPos n = true) : ∃ x, d = iL x ∧ x.length = n := by
  cases d <;> first | cases h | skip
  rename_i ds
  have h : (decide (ds.length = n) && ds.all D.isI) = true := h
  rw [Bool.and_eq_true, decide_eq_true_eq, List.all_eq_true] at h
  refine ⟨ds.map D.toI, ?_, by rw [List.length_map]; exact h.1⟩
  unfold iL
  rw [List.map_map]
  congr 1
  have : ∀ d ∈ ds, (D.int ∘ D.toI) d = d := fun d hd => by
    have := h.2 d hd
    cases d <;> first | rfl | cases this
  conv => lhs; rw [← List.map_id ds]
  exact (List.map_congr_left fun d hd => (this d hd).symm)
/-- the nodes with negative numbers -/
def negs (x : List Int) : List Int := (x.zipIdx.filter fun p => p.1 < 0).map fun p => (p.2 : Int)
def wpCheckNode (CG CN : Addr) : WP := fun ds q kx => ∃ (n : Nat) (es : List (Int × Int)) (d : D), ds = [grD CG n es, d] ∧ d.kd ∧ (d.inI 0 ((n : Int) - 1) = true → q .non) ∧ (d.inI 0 ((n : Int) - 1) = false → kx CN d)
def wpNegs (CG CP : Addr) : WPN := fun ds q kx => ∃ (n : Nat) (es : List (Int × Int)) (p : D), ds = [grD CG n es, p] ∧ p.kd ∧ p.kdL ∧ n ≤ 16 ∧ (p.isPos n = false → kx CP p) ∧ ∀ x, p = iL x → x.length = n → q ((negs x).map .int)
def wpEnded (CG CP : Addr) : WP := fun ds q kx => ∃ (n : Nat) (es : List (Int × Int)) (p : D), ds = [grD CG n es, p] ∧ p.kd ∧ p.kdL ∧ n ≤ 16 ∧ (p.isPos n = false → kx CP p) ∧ ∀ x, p = iL x → x.length = n → q (.bl (decide (negs x = [])))
def wpFlipC (CG CP CN : Addr) : WPN := fun ds q kx => ∃ (n : Nat) (es : List (Int × Int)) (p v : D), ds = [grD CG n es, p, v] ∧ GOk n es ∧ p.kd ∧ p.kdL ∧ (p.isPos n = false → kx CP p) ∧ ∀ x, p = iL x → x.length = n → v.kd ∧ (v.inI 0 ((n : Int) - 1) = false → kx CN v) ∧ ∀ i, v = .int i → 0 ≤ i → i < n → q ((flipF n es x i).map .int)
def wpFire (CG CP CN CM : Addr) : WPN := fun ds q kx => ∃ (n : Nat) (es : List (Int × Int)) (p v : D), ds = [grD CG n es, p, v] ∧ GOk n es ∧ p.kd ∧ p.kdL ∧ (p.isPos n = false → kx CP p) ∧ ∀ x, p = iL x → x.length = n → v.kd ∧ (v.inI 0 ((n : Int) - 1) = false → kx CN v) ∧ ∀ i, v = .int i → 0 ≤ i → i < n → (0 ≤ at_ x i → kx CM v) ∧ (at_ x i < 0 → q ((flipF n es x i).map .int))

structure EOk (n : Nat) (es : List (Int × Int)) : Prop where
  len : es.length ≤ 40
  mem : ∀ p ∈ es, 0 ≤ p.1 ∧ p.1 < p.2 ∧ p.2 < n
  nod : es.Nodup
theorem eo_snoc {n : Nat} {es : List (Int × Int)} {p : Int × Int} (ek : EOk n es) (hl : es.length < 40) (hp : 0 ≤ p.1 ∧ p.1 < p.2 ∧ p.2 < n) (hm : p ∉ es) : EOk n (es ++ [p]) := by
  refine ⟨by rw [List.length_append, List.length_singleton]; omega, fun r hr => ?_, ?_⟩
  · rcases List.mem_append.mp hr with hr | hr
    · exact ek.mem r hr
    · cases List.mem_singleton.mp hr
      exact hp
  · rw [List.nodup_append]
    refine ⟨ek.nod, by simp, fun a ha b hb => ?_⟩
    cases List.mem_singleton.mp hb
    rintro rfl
    exact hm ha
theorem EOk.perm {n : Nat} {es fs : List (Int × Int)} (h : EOk n es) (p : fs.Perm es) : EOk n fs := ⟨by rw [p.length_eq]; exact h.len, fun r hr => h.mem r (p.mem_iff.mp hr), p.nodup_iff.mpr h.nod⟩
def wpJoins : WPN := fun ds q _ => ∃ (n : Nat) (m : Int), ds = [.pool, .int n, .int m] ∧ (1 ≤ n ∧ n ≤ 16) ∧ (0 ≤ m ∧ m < 40) ∧ ∀ es : List (Int × Int), EOk n es → (es.length : Int) ≤ m → q (es.map pD)
abbrev nrD (n : Nat) (es : List (Int × Int)) : D := .lst ((ndL n).map fun v => iL (nbs n es v))
def wpNear : WP := fun ds q _ => ∃ (n : Nat) (es : List (Int × Int)), ds = [.int n, .lst (es.map pD)] ∧ n ≤ 16 ∧ EOk n es ∧ ∀ fs : List (Int × Int), fs.Perm es → q (nrD n fs)
def wpTurned : WPN := fun ds q _ => ∃ (n : Nat) (es : List (Int × Int)) (x : List Int) (v : Int), ds = [nrD n es, iL x, .int v] ∧ x.length = n ∧ 0 ≤ v ∧ v < n ∧ q ((flipF n es x v).map .int)
def wpNumber : WP := fun ds q _ => ds = [.pool] ∧ ∀ z : Int, -(10 ^ 39) < z → z < 10 ^ 39 → q (.int z)
def wpNumbers : WPN := fun ds q _ => ∃ n : Nat, ds = [.pool, .int n] ∧ n ≤ 1000 ∧ ∀ x : List Int, x.length = n → (∀ z ∈ x, -(10 ^ 39) < z ∧ z < 10 ^ 39) → q (x.map .int)
theorem ints_of {R : Int → Prop} : ∀ {ds : List D}, (∀ d ∈ ds, ∃ z : Int, d = .int z ∧ R z) → ∃ x : List Int, ds = x.map .int ∧ ∀ z ∈ x, R z
  | [], _ => ⟨[], rfl, fun _ h => nomatch h⟩
  | d :: ds, h => by
    obtain ⟨z, rfl, hz⟩ := h d List.mem_cons_self
    obtain ⟨x, rfl, hx⟩ := ints_of (R := R) fun e he => h e (List.mem_cons_of_mem _ he)
    refine ⟨z :: x, rfl, fun y hy => ?_⟩
    rcases List.mem_cons.mp hy with rfl | hy
    · exact hz
    · exact hx y hy
theorem adj_perm {es fs : List (Int × Int)} (h : es.Perm fs) (a b : Int) : adj es a b = adj fs a b := by
  have : adj es a b = true ↔ adj fs a b = true := by rw [adj_iff, adj_iff, h.mem_iff, h.mem_iff]
  cases h1 : adj es a b <;> cases h2 : adj fs a b <;> simp_all
theorem flipF_perm {es fs : List (Int × Int)} (h : es.Perm fs) (n : Nat) (x : List Int) (v : Int) : flipF n es x v = flipF n fs x v := by
  unfold flipF
  apply List.map_congr_left
  intro j _
  rw [adj_perm h]
theorem edge_pD {n : Int} {p : Int × Int} (h : 0 ≤ p.1 ∧ p.1 < p.2 ∧ p.2 < n) : (pD p).edge n = some p := by
  show (if 0 ≤ p.1 ∧ p.1 < n ∧ 0 ≤ p.2 ∧ p.2 < n ∧ p.1 ≠ p.2 then some (p.1, p.2) else none) = some p
  rw [if_pos ⟨by omega, by omega, by omega, by omega, by omega⟩]
theorem chk_all {n : Int} : ∀ {es acc : List (Int × Int)}, (∀ p ∈ es, 0 ≤ p.1 ∧ p.1 < p.2 ∧ p.2 < n) → (acc ++ es).Nodup → chkE n (es.map pD) acc = .ok (acc ++ es)
  | [], acc, _, _ => by
    rw [List.append_nil]
    rfl
  | p :: es, acc, h, hn => by
    have hp := h p List.mem_cons_self
    have hm : mm p = p := by
      unfold mm
      rw [show min p.1 p.2 = p.1 by omega, show max p.1 p.2 = p.2 by omega]
    have hnot : p ∉ acc := fun hm => by
      have := (List.nodup_append.mp hn).2.2 p hm p List.mem_cons_self
      exact this rfl
    rw [List.map_cons]
    unfold chkE
    rw [edge_pD hp]
    dsimp only
    rw [hm, if_neg hnot, chk_all (fun q hq => h q (List.mem_cons_of_mem _ hq)) (by rw [List.append_assoc]; exact hn), List.append_assoc]
    rfl
theorem gi_ok {CG CS CE CT : Addr} {n : Nat} {es : List (Int × Int)} {q : O → Prop} {kx : Addr → D → Prop} (hn : 1 ≤ n ∧ n ≤ 16) (ek : EOk n es) (h : ∀ s : List (Int × Int), s.Perm es → GOk n s → ∀ a, q (grO a CG n s)) : wpGI CG CS CE CT [.int n, .lst (es.map pD)] q kx := by
  have hi : (D.int n).inI 1 16 = true := by
    show (decide (1 ≤ (n : Int)) && decide ((n : Int) ≤ 16)) = true
    rw [decide_eq_true (by omega), decide_eq_true (by omega)]
    rfl
  refine ⟨_, _, rfl, kd_int _, fun hf => ?_, fun _ => ⟨n, rfl, n, _, rfl, ⟨_, rfl⟩, fun d hd => ?_, ?_, ?_⟩⟩
  · rw [hi] at hf
    cases hf
  · obtain ⟨p, _, rfl⟩ := List.mem_map.mp hd
    exact ⟨⟨_, rfl⟩, fun e he => by
      simp only [List.mem_cons, List.not_mem_nil, or_false] at he
      rcases he with rfl | rfl <;> exact kd_int _⟩
  · rw [List.length_map]
    exact Nat.le_trans ek.len (by decide)
  · rw [chk_all (acc := []) ek.mem (by rw [List.nil_append]; exact ek.nod), List.nil_append]
    dsimp only
    rw [if_neg (by have := ek.len; omega)]
    intro s hp hs s' gk e a
    have : s = s' := (List.map_inj_right fun _ _ h => pD_inj h).mp e
    subst this
    exact h s hp gk a
theorem flip_bd {n : Nat} {es : List (Int × Int)} {x : List Int} {v B : Int} (hx : ∀ z ∈ x, -B < z ∧ z < B) (hB : 0 < B) : ∀ z ∈ flipF n es x v, -(B * 2) < z ∧ z < B * 2 := by
  have ha : ∀ j, -B < at_ x j ∧ at_ x j < B := fun j => by
    unfold at_
    rw [List.getD_eq_getElem?_getD]
    cases hg : x[j.toNat]? with
    | none =>
      show -B < (0 : Int) ∧ (0 : Int) < B
      omega
    | some z => exact hx z (List.mem_of_getElem? hg)
  intro z hz
  unfold flipF at hz
  obtain ⟨j, _, rfl⟩ := List.mem_map.mp hz
  have h1 := ha v
  have h2 := ha j
  split
  · omega
  · split <;> omega

theorem zipIdx_eq (x : List Int) : x.zipIdx = (List.range x.length).map fun i : Nat => (at_ x i, i) := by
  apply List.ext_getElem?
  intro i
  rw [List.getElem?_zipIdx, List.getElem?_map]
  by_cases hi : i < x.length
  · rw [at_get hi, List.getElem?_range hi]
    simp
  · rw [List.getElem?_eq_none (by omega), List.getElem?_eq_none (by rw [List.length_range]; omega)]
    rfl
theorem negs_eq (x : List Int) : negs x = ((List.range x.length).filter fun i : Nat => decide (at_ x i < 0)).map fun i : Nat => (i : Int) := by
  unfold negs
  rw [zipIdx_eq, List.filter_map, List.map_map]
  rfl
theorem mem_negs {x : List Int} {v : Int} : v ∈ negs x ↔ (0 ≤ v ∧ v < x.length) ∧ at_ x v < 0 := by
  rw [negs_eq, List.mem_map]
  constructor
  · rintro ⟨i, hi, rfl⟩
    rw [List.mem_filter, List.mem_range, decide_eq_true_eq] at hi
    exact ⟨by omega, hi.2⟩
  · rintro ⟨⟨h0, h1⟩, h2⟩
    refine ⟨v.toNat, ?_, by omega⟩
    rw [List.mem_filter, List.mem_range, decide_eq_true_eq, show ((v.toNat : Nat) : Int) = v by omega]
    exact ⟨by omega, h2⟩
theorem negs_len (x : List Int) : (negs x).length ≤ x.length := by
  rw [negs_eq, List.length_map]
  refine Nat.le_trans (List.length_filter_le _ _) ?_
  rw [List.length_range]
  exact Nat.le_refl _
theorem shw_negs {x : List Int} (h : x.length ≤ 16) : Shw (.lst ((negs x).map .int)) := (shw_iL (m := 16) (N := 40000) (fun z hz => by
  have := (mem_negs.mp hz).1
  omega) (Nat.le_trans (negs_len x) h) (by decide)).ok (by decide) (by decide)
theorem at_flip {n : Nat} {es : List (Int × Int)} {x : List Int} {v j : Int} (h0 : 0 ≤ j) (h1 : j < n) : at_ (flipF n es x v) j = if j = v then 0 - at_ x v else if adj es v j then at_ x j + at_ x v else at_ x j := by
  have e : (flipF n es x v)[j.toNat]? = some (if j = v then 0 - at_ x v else if adj es v j then at_ x j + at_ x v else at_ x j) := by
    unfold flipF
    rw [List.getElem?_map, ndL_get (by omega), show ((j.toNat : Nat) : Int) = j by omega]
    rfl
  have e2 : at_ (flipF n es x v) j = ((flipF n es x v)[j.toNat]?).getD 0 := by
    unfold at_
    rw [List.getD_eq_getElem?_getD]
  rw [e2, e]
  rfl
theorem flip_flip {n : Nat} {es : List (Int × Int)} {x : List Int} {v : Int} (hx : x.length = n) (h0 : 0 ≤ v) (h1 : v < n) : flipF n es (flipF n es x v) v = x := by
  apply List.ext_getElem?
  intro i
  by_cases hi : i < n
  · have e : (flipF n es (flipF n es x v) v)[i]? = some (if (i : Int) = v then 0 - at_ (flipF n es x v) v else if adj es v i then at_ (flipF n es x v) i + at_ (flipF n es x v) v else at_ (flipF n es x v) i) := by
      conv => lhs; unfold flipF
      rw [List.getElem?_map, ndL_get hi]
      rfl
    rw [e, at_get (by omega), at_flip h0 h1, at_flip (j := (i : Int)) (by omega) (by omega), if_pos rfl]
    congr 1
    by_cases hv : (i : Int) = v
    · rw [if_pos hv, hv]
      omega
    · rw [if_neg hv, if_neg hv]
      split
      · omega
      · rfl
  · rw [List.getElem?_eq_none (by rw [flipF_len]; omega), List.getElem?_eq_none (by omega)]
theorem toI_map (vs : List Int) : (vs.map D.int).map D.toI = vs := by
  rw [List.map_map]
  conv => rhs; rw [← List.map_id vs]
  rfl
theorem iL_inj {x y : List Int} (h : iL x = iL y) : x = y := by
  injection h with h
  have := congrArg (List.map D.toI) h
  rwa [toI_map, toI_map] at this
structure BadP (n : Nat) (d : D) : Prop where
  kd : d.kd
  kdL : d.kdL
  no : d.isPos n = false
  shw : ShwN 200000 3 d
theorem BadP.any {n : Nat} {d : D} (h : BadP n d) : d ≠ .any := by
  rintro rfl
  cases h.kd.choose_spec
theorem BadP.not {n : Nat} {d : D} (h : BadP n d) {x : List Int} (e : d = iL x) (hx : x.length = n) {p : Prop} : p := by
  have := h.no
  rw [e, isPos_iL hx] at this
  cases this
theorem bad_zero {n : Nat} {x : List Int} (hx : x.length = n) (hn : n ≤ 16) (hb : ∀ z ∈ x, -(10 ^ 250) < z ∧ z < 10 ^ 250) : BadP n (.lst (x.map .int ++ [.int 0])) := by
  have e : x.map D.int ++ [D.int 0] = (x ++ [0]).map D.int := by
    rw [List.map_append]
    rfl
  rw [e]
  have hl : (x ++ [0]).length = n + 1 := by rw [List.length_append, List.length_singleton, hx]
  refine ⟨kd_iL _, kdL_iL (by omega), ?_, (shw_iL (m := 17) (fun z hz => ?_) (by omega) (Nat.le_refl _)).mono (by decide) (by decide)⟩
  · show (decide (((x ++ [0]).map D.int).length = n) && _) = false
    rw [List.length_map, hl, decide_eq_false (by omega), Bool.false_and]
  · rcases List.mem_append.mp hz with hz | hz
    · exact hb z hz
    · cases List.mem_singleton.mp hz
      omega
theorem bad_tup {n : Nat} {x : List Int} (hx : x.length = n) (hn : n ≤ 16) (hb : ∀ z ∈ x, -(10 ^ 250) < z ∧ z < 10 ^ 250) : BadP n (.tup (x.map .int)) :=
  ⟨⟨_, rfl⟩, trivial, rfl, (shw_tupB (n := 1921) (e := 0) (m := 16) (fun d hd => by
    obtain ⟨i, hi, rfl⟩ := List.mem_map.mp hd
    exact shw_int (hb i hi)) (by rw [List.length_map]; omega) (Nat.le_refl _)).mono (by decide) (by decide)⟩
theorem bad_cut {n : Nat} {x : List Int} (hx : x.length = n) (h1 : 1 ≤ n) (hn : n ≤ 16) (hb : ∀ z ∈ x, -(10 ^ 250) < z ∧ z < 10 ^ 250) : BadP n (.lst (cut (x.map .int) (some 1) none)) := by
  have e : cut (x.map D.int) (some 1) none = (x.drop 1).map D.int := by
    rw [List.map_drop]
    exact cut_from _ 1
  rw [e]
  have hl : (x.drop 1).length = n - 1 := by rw [List.length_drop, hx]
  refine ⟨kd_iL _, kdL_iL (by omega), ?_, (shw_iL (m := 17) (fun z hz => hb z (List.mem_of_mem_drop hz)) (by omega) (Nat.le_refl _)).mono (by decide) (by decide)⟩
  show (decide (((x.drop 1).map D.int).length = n) && _) = false
  rw [List.length_map, hl, decide_eq_false (by omega), Bool.false_and]
theorem bad_rep {n : Nat} {e : D} (h1 : 1 ≤ n) (hn : n ≤ 16) (hk : e.kd) (hi : e.isI = false) (hs : ShwN 200 2 e) : BadP n (.lst (List.replicate (n : Int).toNat [e]).flatten) := by
  have eq : (List.replicate (n : Int).toNat [e]).flatten = List.replicate n e := by
    rw [show (n : Int).toNat = n by omega]
    simp
  rw [eq]
  refine ⟨⟨_, rfl⟩, ⟨by rw [List.length_replicate]; omega, fun d hd => by rw [List.eq_of_mem_replicate hd]; exact hk⟩, ?_, shw_lstB (m := 16) (fun d hd => by rw [List.eq_of_mem_replicate hd]; exact hs) (by rw [List.length_replicate]; exact hn) (by decide)⟩
  show (_ && (List.replicate n e).all D.isI) = false
  have : (List.replicate n e).all D.isI = false := by
    rw [List.all_eq_false]
    exact ⟨e, List.mem_replicate.mpr ⟨by omega, rfl⟩, by rw [hi]; exact Bool.false_ne_true⟩
  rw [this, Bool.and_false]

structure BadN (n : Nat) (d : D) : Prop where
  kd : d.kd
  shw : Shw d
  no : ∀ {i : Int} {p : Prop}, d = .int i → 0 ≤ i → i < n → p
  any : d ≠ .any
theorem badN_int {n : Nat} {i : Int} (h : i < 0 ∨ n ≤ i) (hb : -(10 ^ 250) < i ∧ i < 10 ^ 250) : BadN n (.int i) := ⟨⟨_, rfl⟩, (shw_int hb).ok (by decide) (by decide), fun e h0 h1 => by
  cases e
  omega, fun z => by cases z⟩
theorem badN_non {n : Nat} : BadN n .non := ⟨⟨_, rfl⟩, shw_non.ok (by decide) (by decide), (fun e => by cases e), (fun z => by cases z)⟩
theorem badN_bl {n : Nat} {b : Bool} : BadN n (.bl b) := ⟨⟨_, rfl⟩, shw_bl.ok (by decide) (by decide), (fun e => by cases e), (fun z => by cases z)⟩
theorem badN_str {n : Nat} {x : Str} (h : (reprText x).length ≤ 100) : BadN n (.str x) := ⟨⟨_, rfl⟩, (shw_str (n := 100) h).ok (by decide) (by decide), (fun e => by cases e), (fun z => by cases z)⟩
theorem badN_tup {n : Nat} {i : Int} (hb : -(10 ^ 250) < i ∧ i < 10 ^ 250) : BadN n (.tup [.int i]) := ⟨⟨_, rfl⟩, (shw_tupB (n := 1921) (e := 0) (m := 1) (N := 3000) (fun e he => by cases List.mem_singleton.mp he; exact shw_int hb) (by simp) (by decide)).ok (by decide) (by decide), (fun e => by cases e), (fun z => by cases z)⟩
theorem badP_non {n : Nat} : BadP n .non := ⟨⟨_, rfl⟩, trivial, rfl, shw_non.mono (by decide) (by decide)⟩
theorem badP_dic {n : Nat} {a : Addr} : BadP n (.dic a [] []) := ⟨⟨_, rfl⟩, trivial, rfl, shw_dic.mono (by decide) (by decide)⟩
theorem badP_str {n : Nat} {x : Str} (h : (reprText x).length ≤ 100) : BadP n (.str x) := ⟨⟨_, rfl⟩, trivial, rfl, (shw_str (n := 100) h).mono (by decide) (by decide)⟩
theorem badP_repB {n : Nat} {b : Bool} (h1 : 1 ≤ n) (hn : n ≤ 16) : BadP n (.lst (List.replicate (n : Int).toNat [.bl b]).flatten) := bad_rep h1 hn ⟨_, rfl⟩ rfl (shw_bl.mono (by decide) (by decide))
theorem badP_repS {n : Nat} {x : Str} (h1 : 1 ≤ n) (hn : n ≤ 16) (h : (reprText x).length ≤ 100) : BadP n (.lst (List.replicate (n : Int).toNat [.str x]).flatten) := bad_rep h1 hn ⟨_, rfl⟩ rfl ((shw_str (n := 100) h).mono (by decide) (by decide))
theorem BadP.sh {n : Nat} {d : D} (h : BadP n d) : Shw d := h.shw.ok (by decide) (by decide)
theorem noP {n : Nat} {x : List Int} (hx : x.length = n) {p : Prop} (hf : (iL x).isPos n = false) : p := by
  rw [isPos_iL hx] at hf
  cases hf
theorem inN {n : Nat} {j : Int} (h0 : 0 ≤ j) (h1 : j < n) {p : Prop} (hf : (D.int j).inI 0 ((n : Int) - 1) = false) : p := by
  have : (decide ((0 : Int) ≤ j) && decide (j ≤ (n : Int) - 1)) = false := hf
  rw [decide_eq_true h0, decide_eq_true (by omega)] at this
  cases this
theorem rng_get {n j : Nat} {d : D} (hd : ((List.range (n : Int).toNat).map fun i : Nat => D.int (0 + i))[j]? = some d) : j < n ∧ d = .int (j : Int) := by
  have hj := (List.getElem?_eq_some_iff.mp hd).1
  simp only [List.length_map, List.length_range] at hj
  have hj : j < n := by omega
  rw [List.getElem?_map, List.getElem?_range (by omega)] at hd
  refine ⟨hj, ?_⟩
  rw [← Option.some.inj hd]
  show D.int (0 + (j : Int)) = _
  rw [Int.zero_add]
theorem mem_at {x : List Int} {z : Int} (h : z ∈ x) : ∃ j : Nat, j < x.length ∧ at_ x j = z := by
  obtain ⟨j, hj, e⟩ := List.getElem_of_mem h
  refine ⟨j, hj, ?_⟩
  have := at_get hj
  rw [List.getElem?_eq_getElem hj, e] at this
  exact (Option.some.inj this).symm
theorem at_mem {x : List Int} {j : Int} (h0 : 0 ≤ j) (h1 : j < x.length) : at_ x j ∈ x := by
  have := at_get (x := x) (j := j.toNat) (by omega)
  rw [show ((j.toNat : Nat) : Int) = j by omega] at this
  exact List.mem_of_getElem? this

/-! sums over the nodes -/
def sumN (n : Nat) (g : Int → Int) : Int := ((ndL n).map g).sum
theorem sum_add {α : Type} (l : List α) (g h : α → Int) : (l.map fun j => g j + h j).sum = (l.map g).sum + (l.map h).sum := by
  induction l with
  | nil => rfl
  | cons a l ih =>
    simp only [List.map_cons, List.sum_cons]
    rw [ih]
    omega
theorem sum_mulr {α : Type} (l : List α) (g : α → Int) (c : Int) : (l.map fun j => g j * c).sum = (l.map g).sum * c := by
  induction l with
  | nil => simp
  | cons a l ih =>
    simp only [List.map_cons, List.sum_cons]
    rw [ih, Int.add_mul]
theorem sum_filter {α : Type} (l : List α) (p : α → Bool) (g : α → Int) : ((l.filter p).map g).sum = (l.map fun j => if p j then g j else 0).sum := by
  induction l with
  | nil => rfl
  | cons a l ih =>
    rw [List.filter_cons]
    by_cases h : p a
    · rw [if_pos h]
      simp only [List.map_cons, List.sum_cons]
      rw [ih, if_pos h]
    · rw [if_neg h]
      simp only [List.map_cons, List.sum_cons]
      rw [ih, if_neg h]
      omega
theorem sum_zero {α : Type} (l : List α) (g : α → Int) (h : ∀ j ∈ l, g j = 0) : (l.map g).sum = 0 := by
  induction l with
  | nil => rfl
  | cons a l ih =>
    simp only [List.map_cons, List.sum_cons]
    rw [ih fun j hj => h j (List.mem_cons_of_mem _ hj), h a List.mem_cons_self]
    rfl
theorem sum_single (a v : Int) : ∀ l : List Int, l.Nodup → v ∈ l → (l.map fun j => if j = v then a else 0).sum = a
  | [], _, h => nomatch h
  | x :: l, hn, h => by
    simp only [List.map_cons, List.sum_cons]
    rcases List.mem_cons.mp h with rfl | h
    · rw [if_pos rfl, sum_zero l _ fun j hj => if_neg fun (z : j = v) => (List.nodup_cons.mp hn).1 (z ▸ hj)]
      omega
    · rw [if_neg fun (z : x = v) => (List.nodup_cons.mp hn).1 (z ▸ h), sum_single a v l (List.nodup_cons.mp hn).2 h]
      omega
theorem sumN_congr {n : Nat} {g h : Int → Int} (e : ∀ j : Int, 0 ≤ j → j < n → g j = h j) : sumN n g = sumN n h := by
  unfold sumN
  rw [List.map_congr_left fun j hj => e j (mem_ndL.mp hj).1 (mem_ndL.mp hj).2]
theorem sumN_add (n : Nat) (g h : Int → Int) : sumN n (fun j => g j + h j) = sumN n g + sumN n h := sum_add _ g h
theorem sumN_mulr (n : Nat) (g : Int → Int) (c : Int) : sumN n (fun j => g j * c) = sumN n g * c := sum_mulr _ g c
theorem sumN_single {n : Nat} {v : Int} (a : Int) (h0 : 0 ≤ v) (h1 : v < n) : sumN n (fun j => if j = v then a else 0) = a := sum_single a v _ (lt_nodup (ndL_lt n)) (mem_ndL.mpr ⟨h0, h1⟩)
/-! forms -/
def dotF (f x : List Int) : Int := ((f.zip x).map fun p => p.1 * p.2).sum
theorem dot_eq {n : Nat} {f x : List Int} (hf : f.length = n) (hx : x.length = n) : dotF f x = sumN n fun j => at_ f j * at_ x j := by
  unfold dotF sumN
  congr 1
  apply List.ext_getElem?
  intro i
  rw [List.getElem?_map, List.getElem?_map, List.zip, List.getElem?_zipWith]
  by_cases hi : i < n
  · rw [ndL_get hi, at_get (by omega), at_get (by omega)]
    rfl
  · rw [List.getElem?_eq_none (l := f) (by omega), List.getElem?_eq_none (l := ndL n) (by rw [ndL_len]; omega)]
    rfl
def nbSum (n : Nat) (es : List (Int × Int)) (f : List Int) (v : Int) : Int := ((nbs n es v).map (at_ f)).sum
def imgF (n : Nat) (es : List (Int × Int)) (f : List Int) (v : Int) : List Int := f.set v.toNat (nbSum n es f v - at_ f v)
theorem imgF_len (n : Nat) (es : List (Int × Int)) (f : List Int) (v : Int) : (imgF n es f v).length = f.length := List.length_set
theorem at_set {f : List Int} {v j z : Int} (hv : 0 ≤ v) (hl : v < f.length) (hj : 0 ≤ j) : at_ (f.set v.toNat z) j = if j = v then z else at_ f j := by
  unfold at_
  rw [List.getD_eq_getElem?_getD, List.getD_eq_getElem?_getD]
  by_cases h : j = v
  · rw [if_pos h, h, List.getElem?_set_self (by omega)]
    rfl
  · rw [if_neg h, List.getElem?_set_ne (by omega)]
theorem at_img {n : Nat} {es : List (Int × Int)} {f : List Int} {v j : Int} (hf : f.length = n) (h0 : 0 ≤ v) (h1 : v < n) (hj : 0 ≤ j) : at_ (imgF n es f v) j = if j = v then nbSum n es f v - at_ f v else at_ f j := at_set h0 (by omega) hj
theorem adj_self {n : Nat} {es : List (Int × Int)} (h : ∀ p ∈ es, 0 ≤ p.1 ∧ p.1 < p.2 ∧ p.2 < n) (v : Int) : adj es v v = false := by
  cases e : adj es v v with
  | false => rfl
  | true =>
    rcases adj_iff.mp e with z | z <;>
    · have := h _ z
      dsimp only at this
      omega
theorem nbSum_eq (n : Nat) (es : List (Int × Int)) (f : List Int) (v : Int) : nbSum n es f v = sumN n fun j => if adj es v j then at_ f j else 0 := sum_filter _ _ _
theorem img_img {n : Nat} {es : List (Int × Int)} {f : List Int} {v : Int} (hm : ∀ p ∈ es, 0 ≤ p.1 ∧ p.1 < p.2 ∧ p.2 < n) (hf : f.length = n) (h0 : 0 ≤ v) (h1 : v < n) : imgF n es (imgF n es f v) v = f := by
  have e1 : nbSum n es (imgF n es f v) v = nbSum n es f v := by
    unfold nbSum
    rw [List.map_congr_left fun j hj => ?_]
    have hj := mem_nbs.mp hj
    rw [at_img hf h0 h1 hj.1.1, if_neg fun z => ?_]
    rw [z, adj_self hm] at hj
    exact absurd hj.2 Bool.false_ne_true
  have e2 : at_ (imgF n es f v) v = nbSum n es f v - at_ f v := by rw [at_img hf h0 h1 h0, if_pos rfl]
  show (imgF n es f v).set v.toNat (nbSum n es (imgF n es f v) v - at_ (imgF n es f v) v) = f
  rw [e1, e2]
  unfold imgF
  rw [List.set_set]
  apply List.ext_getElem?
  intro i
  by_cases h : v.toNat = i
  · subst h
    rw [List.getElem?_set_self (by omega), at_get (by omega), show ((v.toNat : Nat) : Int) = v by omega]
    congr 1
    omega
  · rw [List.getElem?_set_ne h]
theorem dot_flip {n : Nat} {es : List (Int × Int)} {f x : List Int} {v : Int} (hm : ∀ p ∈ es, 0 ≤ p.1 ∧ p.1 < p.2 ∧ p.2 < n) (hf : f.length = n) (hx : x.length = n) (h0 : 0 ≤ v) (h1 : v < n) : dotF f (flipF n es x v) = dotF (imgF n es f v) x := by
  rw [dot_eq hf (flipF_len n es x v), dot_eq (by rw [imgF_len]; exact hf) hx]
  have e1 : (sumN n fun j => at_ f j * at_ (flipF n es x v) j) = sumN n fun j => at_ f j * at_ x j + ((if adj es v j then at_ f j else 0) * at_ x v + (if j = v then -(2 * (at_ f v * at_ x v)) else 0)) := sumN_congr fun j j0 j1 => by
    rw [at_flip j0 j1]
    by_cases hj : j = v
    · subst hj
      rw [if_pos rfl, if_pos rfl, adj_self hm, if_neg Bool.false_ne_true, Int.mul_sub, Int.zero_mul]
      omega
    · rw [if_neg hj, if_neg hj]
      split
      · rw [Int.mul_add]
        omega
      · rw [Int.zero_mul]
        omega
  have e2 : (sumN n fun j => at_ (imgF n es f v) j * at_ x j) = sumN n fun j => at_ f j * at_ x j + (if j = v then (nbSum n es f v - 2 * at_ f v) * at_ x v else 0) := sumN_congr fun j j0 j1 => by
    rw [at_img hf h0 h1 j0]
    by_cases hj : j = v
    · subst hj
      rw [if_pos rfl, if_pos rfl, ← Int.add_mul]
      congr 1
      omega
    · rw [if_neg hj, if_neg hj, Int.add_zero]
  rw [e1, e2, sumN_add, sumN_add, sumN_add, sumN_mulr, sumN_single _ h0 h1, sumN_single _ h0 h1, ← nbSum_eq, Int.sub_mul, Int.mul_assoc]
  omega
def unitF (n : Nat) (v : Int) : List Int := (ndL n).map fun j => if j = v then 1 else 0
/-! bounds -/
def Bd (B : Int) (x : List Int) : Prop := ∀ z ∈ x, -B < z ∧ z < B
theorem Bd.at {B : Int} {x : List Int} (h : Bd B x) (hB : 0 < B) (j : Int) : -B < at_ x j ∧ at_ x j < B := by
  unfold at_
  rw [List.getD_eq_getElem?_getD]
  cases hg : x[j.toNat]? with
  | none =>
    show -B < (0 : Int) ∧ (0 : Int) < B
    omega
  | some z => exact h z (List.mem_of_getElem? hg)
theorem sum_bd {α : Type} {B : Int} (g : α → Int) : ∀ l : List α, (∀ a ∈ l, -B < g a ∧ g a < B) → -(B * l.length) ≤ (l.map g).sum ∧ (l.map g).sum ≤ B * l.length
  | [], _ => by simp
  | a :: l, h => by
    have h1 := h a List.mem_cons_self
    have h2 := sum_bd g l fun b hb => h b (List.mem_cons_of_mem _ hb)
    simp only [List.map_cons, List.sum_cons, List.length_cons]
    rw [show ((l.length + 1 : Nat) : Int) = (l.length : Int) + 1 by omega, Int.mul_add, Int.mul_one]
    omega
theorem nbs_len (n : Nat) (es : List (Int × Int)) (v : Int) : (nbs n es v).length ≤ n := by
  unfold nbs
  refine Nat.le_trans (List.length_filter_le _ _) ?_
  rw [ndL_len]
  exact Nat.le_refl _
theorem mul_le_len {B : Int} {m n : Nat} (hB : 0 < B) (h : m ≤ n) : B * (m : Int) ≤ B * n := Int.mul_le_mul_of_nonneg_left (by omega) (by omega)
theorem img_bd {n : Nat} {es : List (Int × Int)} {f : List Int} {v B : Int} (h : Bd B f) (hB : 0 < B) (hn : n ≤ 16) : Bd (B * 18) (imgF n es f v) := by
  intro z hz
  rcases List.mem_or_eq_of_mem_set hz with hz | rfl
  · have := h z hz
    omega
  · have h1 := sum_bd (at_ f) (nbs n es v) fun j _ => h.at hB j
    have h2 := mul_le_len hB (Nat.le_trans (nbs_len n es v) hn)
    have h3 := h.at hB v
    have e : nbSum n es f v = ((nbs n es v).map (at_ f)).sum := rfl
    rw [show B * ((16 : Nat) : Int) = B * 16 from rfl] at h2
    omega
theorem nbs_perm {es fs : List (Int × Int)} (h : es.Perm fs) (n : Nat) (v : Int) : nbs n es v = nbs n fs v := by
  unfold nbs
  rw [show adj es v = adj fs v from funext fun j => adj_perm h v j]
theorem imgF_perm {es fs : List (Int × Int)} (h : es.Perm fs) (n : Nat) (f : List Int) (v : Int) : imgF n es f v = imgF n fs f v := by
  unfold imgF nbSum
  rw [nbs_perm h]
/-! promises -/
def wpUnitF : WPN := fun ds q _ => ∃ (n : Nat) (v : Int), ds = [.int n, .int v] ∧ n ≤ 1000 ∧ q ((unitF n v).map .int)
def wpValueOf : WP := fun ds q _ => ∃ f x : List Int, ds = [iL f, iL x] ∧ f.length ≤ 1000 ∧ Bd (10 ^ 200) f ∧ Bd (10 ^ 200) x ∧ q (.int (dotF f x))
def wpImageOf (CG : Addr) : WPN := fun ds q _ => ∃ (n : Nat) (es : List (Int × Int)) (f : List Int) (v : Int), ds = [grD CG n es, iL f, .int v] ∧ n ≤ 16 ∧ f.length = n ∧ 0 ≤ v ∧ v < n ∧ q ((imgF n es f v).map .int)
def wpCheckForm (CG CF : Addr) : WP := fun ds q kx => ∃ (n : Nat) (es : List (Int × Int)) (d : D), ds = [grD CG n es, d] ∧ d.kd ∧ d.kdL ∧ (d.isPos n = true → q .non) ∧ (d.isPos n = false → kx CF d)
def wpUnit (CG CN : Addr) : WPN := fun ds q kx => ∃ (n : Nat) (es : List (Int × Int)) (v : D), ds = [grD CG n es, v] ∧ n ≤ 16 ∧ v.kd ∧ (v.inI 0 ((n : Int) - 1) = false → kx CN v) ∧ ∀ i, v = .int i → 0 ≤ i → i < n → q ((unitF n i).map .int)
def wpValue (CG CF CP : Addr) : WP := fun ds q kx => ∃ (n : Nat) (es : List (Int × Int)) (p v : D), ds = [grD CG n es, p, v] ∧ n ≤ 16 ∧ p.kd ∧ p.kdL ∧ (p.isPos n = false → kx CF p) ∧ ∀ f, p = iL f → f.length = n → v.kd ∧ v.kdL ∧ (v.isPos n = false → kx CP v) ∧ ∀ x, v = iL x → x.length = n → Bd (10 ^ 200) f ∧ Bd (10 ^ 200) x ∧ q (.int (dotF f x))
def wpImage (CG CF CN : Addr) : WPN := fun ds q kx => ∃ (n : Nat) (es : List (Int × Int)) (p v : D), ds = [grD CG n es, p, v] ∧ n ≤ 16 ∧ p.kd ∧ p.kdL ∧ (p.isPos n = false → kx CF p) ∧ ∀ f, p = iL f → f.length = n → v.kd ∧ (v.inI 0 ((n : Int) - 1) = false → kx CN v) ∧ ∀ i, v = .int i → 0 ≤ i → i < n → q ((imgF n es f i).map .int)

def _root_.Z.D.isNum (m : Nat) : D → Bool
  | .lst ts => decide (m ≤ ts.length) && decide (ts.length ≤ 200) && ts.all D.isI
  | _ => false
theorem isNum_inv {m : Nat} {d : D} (h : d.isNum m = true) : ∃ x : List Int, d = iL x ∧ m ≤ x.length ∧ x.length ≤ 200 := by
  cases d <;> first | cases h | skip
  rename_i ts
  have h : (decide (m ≤ ts.length) && decide (ts.length ≤ 200) && ts.all D.isI) = true := h
  rw [Bool.and_eq_true, Bool.and_eq_true, decide_eq_true_eq, decide_eq_true_eq, List.all_eq_true] at h
  refine ⟨ts.map D.toI, ?_, by rw [List.length_map]; exact h.1.1, by rw [List.length_map]; exact h.1.2⟩
  unfold iL
  rw [List.map_map]
  congr 1
  have : ∀ d ∈ ts, (D.int ∘ D.toI) d = d := fun d hd => by
    have := h.2 d hd
    cases d <;> first | rfl | cases this
  conv => lhs; rw [← List.map_id ts]
  exact (List.map_congr_left fun d hd => (this d hd).symm)
theorem isNum_iL {m : Nat} {x : List Int} (h1 : m ≤ x.length) (h2 : x.length ≤ 200) : (iL x).isNum m = true := by
  show (decide (m ≤ (x.map D.int).length) && decide ((x.map D.int).length ≤ 200) && (x.map D.int).all D.isI) = true
  rw [List.length_map, decide_eq_true h1, decide_eq_true h2, List.all_map]
  simp [D.isI]
/-- sums of the first 0, 1, .. numbers, from a on -/
def sumsF (a : Int) : List Int → List Int
  | [] => [a]
  | z :: zs => a :: sumsF (a + z) zs
theorem sumsF_len (zs : List Int) : ∀ a, (sumsF a zs).length = zs.length + 1 := by
  induction zs with
  | nil => intro a; rfl
  | cons z zs ih => intro a; show (sumsF _ zs).length + 1 = _; rw [ih]; rfl
theorem sumsF_snoc (zs : List Int) (z : Int) : ∀ a, sumsF a (zs ++ [z]) = sumsF a zs ++ [a + zs.sum + z] := by
  induction zs with
  | nil => intro a; show [a, a + z] = [a, a + 0 + z]; rw [Int.add_zero]
  | cons y zs ih =>
    intro a
    show a :: sumsF (a + y) (zs ++ [z]) = a :: (sumsF (a + y) zs ++ _)
    rw [ih, List.sum_cons, ← Int.add_assoc]
theorem sumsF_last (zs : List Int) : ∀ a, (sumsF a zs)[zs.length]? = some (a + zs.sum) := by
  induction zs with
  | nil => intro a; show some a = some (a + 0); rw [Int.add_zero]
  | cons y zs ih =>
    intro a
    show (sumsF (a + y) zs)[zs.length]? = _
    rw [ih, List.sum_cons, ← Int.add_assoc]
def diffs (s : List Int) : List Int := (s.zip s.tail).map fun p => p.2 - p.1
theorem diffs_len (s : List Int) : (diffs s).length = s.length - 1 := by
  unfold diffs
  rw [List.length_map, List.length_zip, List.length_tail]
  omega
theorem diffs_at {s : List Int} {j : Int} (h0 : 0 ≤ j) (h1 : j + 1 < s.length) : at_ (diffs s) j = at_ s (j + 1) - at_ s j := by
  have hd := at_get (x := diffs s) (j := j.toNat) (by rw [diffs_len]; omega)
  rw [show ((j.toNat : Nat) : Int) = j by omega] at hd
  unfold diffs at hd
  rw [List.getElem?_map, List.zip, List.getElem?_zipWith, List.getElem?_tail, at_get (by omega), at_get (by omega), show ((j.toNat : Nat) : Int) = j by omega, show ((j.toNat + 1 : Nat) : Int) = j + 1 by omega] at hd
  exact (Option.some.inj hd).symm
theorem diffs_sums (zs : List Int) : ∀ a, diffs (sumsF a zs) = zs := by
  induction zs with
  | nil => intro a; rfl
  | cons z zs ih =>
    intro a
    have h := ih (a + z)
    cases zs with
    | nil => show [a + z - a] = [z]; congr 1; omega
    | cons y zs =>
      show (a + z - a) :: diffs (sumsF (a + z) (y :: zs)) = _
      rw [h]
      congr 1
      omega
/-- inversions -/
def inv : List Int → Nat
  | [] => 0
  | a :: t => (t.filter fun b => decide (b < a)).length + inv t
theorem inv_snoc (a : Int) : ∀ t : List Int, inv (t ++ [a]) = inv t + (t.filter fun b => decide (a < b)).length
  | [] => rfl
  | c :: t => by
    show ((t ++ [a]).filter fun b => decide (b < c)).length + inv (t ++ [a]) = ((t.filter fun b => decide (b < c)).length + inv t) + ((c :: t).filter fun b => decide (a < b)).length
    rw [inv_snoc a t, List.filter_append, List.length_append, List.filter_cons, List.filter_cons]
    by_cases h : a < c
    · rw [if_pos (decide_eq_true h), if_pos (decide_eq_true h), List.filter_nil]
      simp only [List.length_cons, List.length_nil]
      omega
    · rw [if_neg (by rw [decide_eq_true_eq]; exact h), if_neg (by rw [decide_eq_true_eq]; exact h), List.filter_nil, List.length_nil]
      omega
theorem inv_swap {a b : Int} (h : b < a) (q : List Int) : ∀ p : List Int, inv (p ++ a :: b :: q) = inv (p ++ b :: a :: q) + 1
  | [] => by
    show ((b :: q).filter fun z => decide (z < a)).length + ((q.filter fun z => decide (z < b)).length + inv q) = ((a :: q).filter fun z => decide (z < b)).length + ((q.filter fun z => decide (z < a)).length + inv q) + 1
    rw [List.filter_cons, List.filter_cons, if_pos (decide_eq_true h), if_neg (by rw [decide_eq_true_eq]; omega), List.length_cons]
    omega
  | c :: p => by
    show ((p ++ a :: b :: q).filter fun z => decide (z < c)).length + inv (p ++ a :: b :: q) = ((p ++ b :: a :: q).filter fun z => decide (z < c)).length + inv (p ++ b :: a :: q) + 1
    rw [inv_swap h q p, (((List.Perm.swap b a q).append_left p).filter fun z => decide (z < c)).length_eq]
    omega
theorem inv_sorted : ∀ {t : List Int}, t.Pairwise (· ≤ ·) → inv t = 0
  | [], _ => rfl
  | a :: t, h => by
    obtain ⟨h1, h2⟩ := List.pairwise_cons.mp h
    show (t.filter fun b => decide (b < a)).length + inv t = 0
    rw [inv_sorted h2, List.filter_eq_nil_iff.mpr fun b hb => by
      have := h1 b hb
      rw [decide_eq_true_eq]
      omega]
    rfl
theorem inv_le : ∀ t : List Int, inv t ≤ t.length * t.length
  | [] => Nat.le_refl 0
  | a :: t => by
    have h1 := List.length_filter_le (fun b => decide (b < a)) t
    have h2 := inv_le t
    show (t.filter fun b => decide (b < a)).length + inv t ≤ (t.length + 1) * (t.length + 1)
    rw [Nat.add_mul, Nat.mul_add]
    omega
def wpCheckNum (CP : Addr) : WP := fun ds q kx => ∃ (d : D) (m : Nat), ds = [d, .int m] ∧ d.kd ∧ d.kdL ∧ (d.isNum m = true → q .non) ∧ (d.isNum m = false → kx CP d)
def wpSums : WPN := fun ds q _ => ∃ x : List Int, ds = [iL x] ∧ x.length ≤ 1000 ∧ q ((sumsF 0 x).map .int)
def wpDiffs : WPN := fun ds q _ => ∃ s : List Int, ds = [iL s] ∧ s.length ≤ 1000 ∧ q ((diffs s).map .int)
def wpPSteps (CP : Addr) : WP := fun ds q kx => ∃ d : D, ds = [d] ∧ d.kd ∧ d.kdL ∧ (d.isNum 1 = false → kx CP d) ∧ ∀ x : List Int, d = iL x → 1 ≤ x.length → x.length ≤ 200 → q (.int (inv (sumsF 0 x) : Nat))
def wpPEnd (CP : Addr) : WPN := fun ds q kx => ∃ d : D, ds = [d] ∧ d.kd ∧ d.kdL ∧ (d.isNum 1 = false → kx CP d) ∧ ∀ x : List Int, d = iL x → 1 ≤ x.length → x.length ≤ 200 → ∀ t : List Int, t.Perm (sumsF 0 x) → t.Pairwise (· ≤ ·) → q ((diffs t).map .int)
theorem inv_enum (s : List Int) : (s.zipIdx.map fun p => (((s.drop p.2).filter fun b => decide (b < p.1)).length : Int)).sum = (inv s : Nat) := by
  have key : ∀ (s t : List Int) (k : Nat), t.drop k = s → ((s.zipIdx k).map fun p => (((t.drop p.2).filter fun b => decide (b < p.1)).length : Int)).sum = (inv s : Nat) := by
    intro s
    induction s with
    | nil => intro t k _; rfl
    | cons a s ih =>
      intro t k e
      rw [List.zipIdx_cons, List.map_cons, List.sum_cons, ih t (k + 1) (by rw [← List.drop_drop, e]; rfl), e, List.filter_cons, if_neg (by rw [decide_eq_true_eq]; omega)]
      show _ = (((s.filter fun b => decide (b < a)).length + inv s : Nat) : Int)
      dsimp only
      omega
  exact key s s 0 rfl
/-! ## the quadratic form of a graph -/
abbrev EM (n : Nat) (es : List (Int × Int)) : Prop := ∀ p ∈ es, 0 ≤ p.1 ∧ p.1 < p.2 ∧ p.2 < n
theorem sumN_zero {n : Nat} {g : Int → Int} (h : ∀ j : Int, 0 ≤ j → j < n → g j = 0) : sumN n g = 0 := sum_zero _ _ fun j hj => h j (mem_ndL.mp hj).1 (mem_ndL.mp hj).2
theorem sumN_mull (n : Nat) (c : Int) (g : Int → Int) : sumN n (fun j => c * g j) = c * sumN n g := by
  rw [Int.mul_comm, ← sumN_mulr]
  exact sumN_congr fun j _ _ => Int.mul_comm _ _
theorem sumN_sub (n : Nat) (g h : Int → Int) : sumN n (fun j => g j - h j) = sumN n g - sumN n h := by
  have := sumN_add n (fun j => g j - h j) h
  rw [sumN_congr (h := g) fun j _ _ => by show g j - h j + h j = g j; omega] at this
  omega
theorem sum_le {α : Type} (l : List α) (g h : α → Int) (e : ∀ j ∈ l, g j ≤ h j) : (l.map g).sum ≤ (l.map h).sum := by
  induction l with
  | nil => exact Int.le_refl _
  | cons a l ih =>
    simp only [List.map_cons, List.sum_cons]
    have := ih fun j hj => e j (List.mem_cons_of_mem _ hj)
    have := e a List.mem_cons_self
    omega
theorem sumN_le {n : Nat} {g h : Int → Int} (e : ∀ j : Int, 0 ≤ j → j < n → g j ≤ h j) : sumN n g ≤ sumN n h := sum_le _ _ _ fun j hj => e j (mem_ndL.mp hj).1 (mem_ndL.mp hj).2
theorem sumN_nonneg {n : Nat} {g : Int → Int} (e : ∀ j : Int, 0 ≤ j → j < n → 0 ≤ g j) : 0 ≤ sumN n g := by
  have := sumN_le (n := n) (g := fun _ => 0) (h := g) e
  rw [sumN_zero fun _ _ _ => rfl] at this
  exact this
theorem sumN_term {n : Nat} {g : Int → Int} (e : ∀ j : Int, 0 ≤ j → j < n → 0 ≤ g j) {v : Int} (h0 : 0 ≤ v) (h1 : v < n) : g v ≤ sumN n g := by
  have h := sumN_le (n := n) (g := fun j => if j = v then g v else 0) (h := g) fun j j0 j1 => by
    show (if j = v then g v else 0) ≤ g j
    split
    · next z => rw [z]; exact Int.le_refl _
    · exact e j j0 j1
  rw [sumN_single (g v) h0 h1] at h
  exact h
theorem sumN_pos {n : Nat} {g : Int → Int} (h : 0 < sumN n g) : ∃ j : Int, 0 ≤ j ∧ j < n ∧ 0 < g j := by
  apply Classical.byContradiction
  intro hn
  have := sumN_le (n := n) (g := g) (h := fun _ => 0) fun j j0 j1 => by
    rcases Int.lt_or_le 0 (g j) with z | z
    · exact absurd ⟨j, j0, j1, z⟩ hn
    · exact z
  rw [sumN_zero (n := n) (g := fun _ => 0) fun _ _ _ => rfl] at this
  omega
theorem sum_swap {α β : Type} (l : List α) (m : List β) (F : α → β → Int) : (l.map fun a => (m.map fun b => F a b).sum).sum = (m.map fun b => (l.map fun a => F a b).sum).sum := by
  induction l with
  | nil => simp only [List.map_nil, List.sum_nil]; exact (sum_zero m _ fun _ _ => rfl).symm
  | cons a l ih =>
    simp only [List.map_cons, List.sum_cons]
    rw [ih, sum_add]
theorem sumN_swap (n m : Nat) (F : Int → Int → Int) : sumN n (fun a => sumN m fun b => F a b) = sumN m fun b => sumN n fun a => F a b := sum_swap _ _ _
/-- the sum over the neighbours -/
def aS (n : Nat) (es : List (Int × Int)) (v : Int) (g : Int → Int) : Int := sumN n fun u => if adj es v u then g u else 0
theorem aS_nb (n : Nat) (es : List (Int × Int)) (v : Int) (g : Int → Int) : aS n es v g = ((nbs n es v).map g).sum := (sum_filter _ _ _).symm
theorem aS_congr {n : Nat} {es : List (Int × Int)} {v : Int} {g h : Int → Int} (e : ∀ j : Int, 0 ≤ j → j < n → adj es v j = true → g j = h j) : aS n es v g = aS n es v h := sumN_congr fun j j0 j1 => by
  show (if adj es v j then g j else 0) = if adj es v j then h j else 0
  split
  · next z => exact e j j0 j1 z
  · rfl
theorem aS_mull (n : Nat) (es : List (Int × Int)) (v c : Int) (g : Int → Int) : aS n es v (fun j => c * g j) = c * aS n es v g := by
  unfold aS
  rw [← sumN_mull]
  exact sumN_congr fun j _ _ => by
    show (if adj es v j then c * g j else 0) = c * if adj es v j then g j else 0
    split
    · rfl
    · rw [Int.mul_zero]
theorem aS_add (n : Nat) (es : List (Int × Int)) (v : Int) (g h : Int → Int) : aS n es v (fun j => g j + h j) = aS n es v g + aS n es v h := by
  unfold aS
  rw [← sumN_add]
  exact sumN_congr fun j _ _ => by
    show (if adj es v j then g j + h j else 0) = (if adj es v j then g j else 0) + if adj es v j then h j else 0
    split
    · rfl
    · rfl
/-- the sum over the pairs of neighbours -/
def pS (n : Nat) (es : List (Int × Int)) (F : Int → Int → Int) : Int := sumN n fun v => aS n es v (F v)
theorem adj_comm' (es : List (Int × Int)) (a b : Int) : adj es a b = adj es b a := by
  have : adj es a b = true ↔ adj es b a = true := by
    rw [adj_iff, adj_iff]
    exact or_comm
  cases h1 : adj es a b <;> cases h2 : adj es b a <;> simp_all
theorem pS_swap (n : Nat) (es : List (Int × Int)) (F : Int → Int → Int) : pS n es F = pS n es fun a b => F b a := by
  unfold pS aS
  rw [sumN_swap]
  exact sumN_congr fun j _ _ => sumN_congr fun i _ _ => by rw [adj_comm' es i j]
theorem pS_congr {n : Nat} {es : List (Int × Int)} {F G : Int → Int → Int} (e : ∀ a b : Int, 0 ≤ a → a < n → 0 ≤ b → b < n → adj es a b = true → F a b = G a b) : pS n es F = pS n es G := sumN_congr fun a a0 a1 => aS_congr fun b b0 b1 h => e a b a0 a1 b0 b1 h
theorem pS_add (n : Nat) (es : List (Int × Int)) (F G : Int → Int → Int) : pS n es (fun a b => F a b + G a b) = pS n es F + pS n es G := by
  unfold pS
  rw [← sumN_add]
  exact sumN_congr fun a _ _ => aS_add n es a (F a) (G a)
theorem pS_mull (n : Nat) (es : List (Int × Int)) (c : Int) (F : Int → Int → Int) : pS n es (fun a b => c * F a b) = c * pS n es F := by
  unfold pS
  rw [← sumN_mull]
  exact sumN_congr fun a _ _ => aS_mull n es a c (F a)
theorem pS_nonneg {n : Nat} {es : List (Int × Int)} {F : Int → Int → Int} (h : ∀ a b : Int, 0 ≤ a → a < n → 0 ≤ b → b < n → adj es a b = true → 0 ≤ F a b) : 0 ≤ pS n es F := sumN_nonneg fun a a0 a1 => sumN_nonneg fun b b0 b1 => by
  show 0 ≤ if adj es a b then F a b else 0
  split
  · next z => exact h a b a0 a1 b0 b1 z
  · exact Int.le_refl _
theorem pS_term {n : Nat} {es : List (Int × Int)} {F : Int → Int → Int} (h : ∀ a b : Int, 0 ≤ a → a < n → 0 ≤ b → b < n → adj es a b = true → 0 ≤ F a b) {a b : Int} (a0 : 0 ≤ a) (a1 : a < n) (b0 : 0 ≤ b) (b1 : b < n) (hab : adj es a b = true) : F a b ≤ pS n es F := by
  have hn : ∀ a b : Int, 0 ≤ a → a < n → 0 ≤ b → b < n → 0 ≤ if adj es a b then F a b else 0 := fun a b a0 a1 b0 b1 => by
    split
    · next z => exact h a b a0 a1 b0 b1 z
    · exact Int.le_refl _
  have h1 := sumN_term (n := n) (g := fun a => aS n es a (F a)) (fun a a0 a1 => sumN_nonneg fun b b0 b1 => hn a b a0 a1 b0 b1) a0 a1
  have h2 := sumN_term (n := n) (g := fun b => if adj es a b then F a b else 0) (fun b b0 b1 => hn a b a0 a1 b0 b1) b0 b1
  simp only [if_pos hab] at h2
  exact Int.le_trans h2 h1
theorem adj_cons (p : Int × Int) (es : List (Int × Int)) (a b : Int) : adj (p :: es) a b = (decide ((a, b) = p) || decide ((b, a) = p) || adj es a b) := by
  have : adj (p :: es) a b = true ↔ (decide ((a, b) = p) || decide ((b, a) = p) || adj es a b) = true := by
    rw [adj_iff]
    simp only [Bool.or_eq_true, decide_eq_true_eq, List.mem_cons, adj_iff]
    constructor
    · rintro ((h | h) | (h | h))
      · exact .inl (.inl h)
      · exact .inr (.inl h)
      · exact .inl (.inr h)
      · exact .inr (.inr h)
    · rintro ((h | h) | (h | h))
      · exact .inl (.inl h)
      · exact .inr (.inl h)
      · exact .inl (.inr h)
      · exact .inr (.inr h)
  cases h1 : adj (p :: es) a b <;> cases h2 : (decide ((a, b) = p) || decide ((b, a) = p) || adj es a b) <;> simp_all
/-- the edges, one by one -/
theorem pS_edges {n : Nat} (F : Int → Int → Int) : ∀ {es : List (Int × Int)}, EM n es → es.Nodup → pS n es F = (es.map fun p => F p.1 p.2 + F p.2 p.1).sum
  | [], _, _ => by
    simp only [List.map_nil, List.sum_nil]
    exact sumN_zero fun a _ _ => sumN_zero fun b _ _ => rfl
  | p :: es, hm, hn => by
    have hp := hm p List.mem_cons_self
    have ih := pS_edges F (es := es) (fun q hq => hm q (List.mem_cons_of_mem _ hq)) (List.nodup_cons.mp hn).2
    have hnp := (List.nodup_cons.mp hn).1
    have key : pS n (p :: es) F = sumN n (fun a => (if a = p.1 then F p.1 p.2 else 0) + ((if a = p.2 then F p.2 p.1 else 0) + aS n es a (F a))) := by
      unfold pS
      refine sumN_congr fun a a0 a1 => ?_
      have e1 : (if a = p.1 then F p.1 p.2 else 0) = sumN n fun b => if b = p.2 then (if a = p.1 then F p.1 p.2 else 0) else 0 := (sumN_single _ (by omega) (by omega)).symm
      have e2 : (if a = p.2 then F p.2 p.1 else 0) = sumN n fun b => if b = p.1 then (if a = p.2 then F p.2 p.1 else 0) else 0 := (sumN_single _ (by omega) (by omega)).symm
      rw [e1, e2]
      unfold aS
      rw [← sumN_add, ← sumN_add]
      refine sumN_congr fun b b0 b1 => ?_
      rw [adj_cons]
      by_cases c1 : a = p.1 ∧ b = p.2
      · obtain ⟨rfl, rfl⟩ := c1
        have h3 : adj es p.1 p.2 = false := by
          cases e : adj es p.1 p.2 with
          | false => rfl
          | true =>
            rcases adj_iff.mp e with z | z
            · exact absurd z hnp
            · have := hm _ (List.mem_cons_of_mem _ z)
              dsimp only at this
              omega
        have n1 : p.1 ≠ p.2 := by omega
        have n2 : p.2 ≠ p.1 := by omega
        simp [h3, n1, n2]
      · by_cases c2 : a = p.2 ∧ b = p.1
        · obtain ⟨rfl, rfl⟩ := c2
          have h3 : adj es p.2 p.1 = false := by
            rw [adj_comm']
            cases e : adj es p.1 p.2 with
            | false => rfl
            | true =>
              rcases adj_iff.mp e with z | z
              · exact absurd z hnp
              · have := hm _ (List.mem_cons_of_mem _ z)
                dsimp only at this
                omega
          have n1 : p.1 ≠ p.2 := by omega
          have n2 : p.2 ≠ p.1 := by omega
          simp [h3, n1, n2]
        · have d1 : decide ((a, b) = p) = false := decide_eq_false fun z => c1 (by rw [← z]; exact ⟨rfl, rfl⟩)
          have d2 : decide ((b, a) = p) = false := decide_eq_false fun z => c2 (by rw [← z]; exact ⟨rfl, rfl⟩)
          rw [d1, d2, Bool.false_or, Bool.false_or]
          have z1 : (if b = p.2 then (if a = p.1 then F p.1 p.2 else 0) else 0) = 0 := by
            split
            · split
              · next z y => exact absurd ⟨y, z⟩ c1
              · rfl
            · rfl
          have z2 : (if b = p.1 then (if a = p.2 then F p.2 p.1 else 0) else 0) = 0 := by
            split
            · split
              · next z y => exact absurd ⟨y, z⟩ c2
              · rfl
            · rfl
          rw [z1, z2]
          omega
    rw [key, sumN_add, sumN_add, sumN_single (v := p.1) _ (by omega) (by omega), sumN_single (v := p.2) _ (by omega) (by omega)]
    simp only [List.map_cons, List.sum_cons]
    unfold pS at ih
    rw [ih]
    omega

/-! cycles -/
section
variable {n : Nat} {T : Int}
/-- how often an arc is worked off -/
def gT (T d : Int) : Int := if d < 0 then (T - 1 - d) / T else 0
def hT (T d : Int) : Int := gT T d + gT T (T - d)
theorem hT_flip (T d : Int) : hT T (T - d) = hT T d := by
  unfold hT
  rw [show T - (T - d) = d by omega]
  exact Int.add_comm _ _
theorem gT_nn (hT : 0 < T) (d : Int) : 0 ≤ gT T d := by
  unfold gT
  split
  · exact Int.ediv_nonneg (by omega) (by omega)
  · exact Int.le_refl 0
theorem gT_pos (hT : 0 < T) {d : Int} (h : d < 0) : 1 ≤ gT T d := by
  unfold gT
  rw [if_pos h]
  exact (Int.le_ediv_iff_mul_le hT).mpr (by omega)
theorem hT_neg (hT0 : 0 < T) {d : Int} (h : d < 0) : hT T d = hT T (-d) + 1 := by
  unfold hT gT
  rw [if_pos h, if_neg (by omega), if_neg (by omega), show T - -d = T + d by omega]
  by_cases h2 : T + d < 0
  · rw [if_pos h2, show T - 1 - (T + d) = (T - 1 - d) + T * (-1) by omega, Int.add_mul_ediv_left _ _ (by omega)]
    omega
  · rw [if_neg h2]
    have : (T - 1 - d) / T = 1 := by
      have h1 := (Int.le_ediv_iff_mul_le hT0).mpr (show 1 * T ≤ T - 1 - d by omega)
      have h2 := Int.ediv_lt_of_lt_mul hT0 (show T - 1 - d < 2 * T by omega)
      omega
    omega
/-- two indices exchanged -/
def swp (p q v : Int) : Int := if v = p then q else if v = q then p else v
theorem swp_swp (p q v : Int) : swp p q (swp p q v) = v := by
  by_cases a : v = p
  · unfold swp
    rw [if_pos a]
    by_cases b : q = p
    · rw [if_pos b]
      omega
    · rw [if_neg b, if_pos rfl]
      exact a.symm
  · by_cases b : v = q
    · unfold swp
      rw [if_neg a, if_pos b, if_pos rfl]
      exact b.symm
    · unfold swp
      rw [if_neg a, if_neg b, if_neg a, if_neg b]
theorem swp_rng {p q v : Int} (hp : 0 ≤ p ∧ p < n) (hq : 0 ≤ q ∧ q < n) (hv : 0 ≤ v ∧ v < n) : 0 ≤ swp p q v ∧ swp p q v < n := by
  unfold swp
  split
  · exact hq
  · split
    · exact hp
    · exact hv
theorem sumN_swp {p q : Int} (hp : 0 ≤ p ∧ p < n) (hq : 0 ≤ q ∧ q < n) (g : Int → Int) : sumN n (fun v => g (swp p q v)) = sumN n g := by
  by_cases e : p = q
  · subst e
    exact sumN_congr fun j _ _ => by
      unfold swp
      split
      · next h => rw [h]
      · rfl
  · rw [sumN_congr (h := fun v => g v + ((if v = p then g q - g p else 0) + (if v = q then g p - g q else 0))) fun v v0 v1 => ?_, sumN_add, sumN_add, sumN_single _ hp.1 hp.2, sumN_single _ hq.1 hq.2]
    · omega
    · unfold swp
      by_cases a : v = p
      · rw [if_pos a, if_pos a, if_neg (by omega), a]
        omega
      · rw [if_neg a, if_neg a]
        by_cases b : v = q
        · rw [if_pos b, if_pos b, b]
          omega
        · rw [if_neg b, if_neg b]
          omega
def dS (n : Nat) (H : Int → Int → Int) : Int := sumN n fun a => sumN n fun b => if a = b then 0 else H a b
theorem dS_swp {p q : Int} (hp : 0 ≤ p ∧ p < n) (hq : 0 ≤ q ∧ q < n) (hpq : p ≠ q) {H H' : Int → Int → Int} (h : ∀ a b : Int, 0 ≤ a → a < n → 0 ≤ b → b < n → a ≠ b → H' a b = H (swp p q a) (swp p q b) - ((if a = p then if b = q then 1 else 0 else 0) + (if a = q then if b = p then 1 else 0 else 0))) : dS n H' = dS n H - 2 := by
  have e1 : dS n H = sumN n fun a => sumN n fun b => if a = b then 0 else H (swp p q a) (swp p q b) := by
    unfold dS
    rw [← sumN_swp hp hq (fun a => sumN n fun b => if a = b then 0 else H a b)]
    refine sumN_congr fun a a0 a1 => ?_
    rw [← sumN_swp hp hq (fun b => if swp p q a = b then 0 else H (swp p q a) b)]
    refine sumN_congr fun b b0 b1 => ?_
    by_cases e : a = b
    · rw [if_pos e, if_pos (by rw [e])]
    · rw [if_neg e, if_neg (fun z => e (by rw [← swp_swp p q a, z, swp_swp]))]
  have e2 : (sumN n fun a => sumN n fun b => ((if a = p then if b = q then (1 : Int) else 0 else 0) + (if a = q then if b = p then 1 else 0 else 0))) = 2 := by
    rw [sumN_congr (h := fun a => (if a = p then 1 else 0) + (if a = q then 1 else 0)) fun a a0 a1 => ?_, sumN_add, sumN_single _ hp.1 hp.2, sumN_single _ hq.1 hq.2]
    · rfl
    · rw [sumN_add]
      congr 1
      · by_cases e : a = p
        · rw [if_pos e, sumN_congr (h := fun b => if b = q then 1 else 0) fun b _ _ => if_pos e, sumN_single _ hq.1 hq.2]
        · rw [if_neg e]
          exact sumN_zero fun b _ _ => if_neg e
      · by_cases e : a = q
        · rw [if_pos e, sumN_congr (h := fun b => if b = p then 1 else 0) fun b _ _ => if_pos e, sumN_single _ hp.1 hp.2]
        · rw [if_neg e]
          exact sumN_zero fun b _ _ => if_neg e
  rw [e1, ← e2, ← sumN_sub]
  unfold dS
  refine sumN_congr fun a a0 a1 => ?_
  rw [← sumN_sub]
  refine sumN_congr fun b b0 b1 => ?_
  by_cases e : a = b
  · rw [if_pos e, if_pos e]
    subst e
    by_cases c : a = p
    · rw [if_pos c, if_neg (by omega), if_neg (by omega)]
      rfl
    · rw [if_neg c]
      by_cases d : a = q
      · rw [if_pos d, if_neg c]
        rfl
      · rw [if_neg d]
        rfl
  · rw [if_neg e, if_neg e]
    exact h a b a0 a1 b0 b1 e
/-- the count by pairs, each pair seen from both sides -/
def cH (T : Int) (Q : Int → Int) (a b : Int) : Int := if a < b then hT T (Q b - Q a) else hT T (Q a - Q b)
/-- a node inside is fired: two sums are exchanged -/
theorem cH_in (hT0 : 0 < T) {Q Q' : Int → Int} {c v : Int} (v0 : 0 ≤ v) (v1 : v + 1 < n) (hx : Q (v + 1) - Q v < 0) (hQ : ∀ i : Int, 0 ≤ i → i < n → Q' i = Q (swp v (v + 1) i) + c) : dS n (cH T Q') = dS n (cH T Q) - 2 := by
  refine dS_swp (p := v) (q := v + 1) ⟨v0, by omega⟩ ⟨by omega, v1⟩ (by omega) fun a b a0 a1 b0 b1 hne => ?_
  unfold cH
  rw [hQ a a0 a1, hQ b b0 b1]
  have key := hT_neg hT0 hx
  by_cases c1 : a = v
  · by_cases c2 : b = v + 1
    · subst c1; subst c2
      rw [if_pos (by omega), show swp a (a + 1) a = a + 1 by unfold swp; rw [if_pos rfl], show swp a (a + 1) (a + 1) = a by unfold swp; rw [if_neg (by omega), if_pos rfl], if_neg (by omega), if_pos rfl, if_pos rfl, if_neg (by omega)]
      rw [show Q a + c - (Q (a + 1) + c) = -(Q (a + 1) - Q a) by omega]
      omega
    · have eb : swp v (v + 1) b = b := by unfold swp; rw [if_neg (by omega), if_neg c2]
      have ea : swp v (v + 1) a = v + 1 := by unfold swp; rw [if_pos c1]
      rw [ea, eb, if_pos c1, if_neg c2, if_neg (show ¬ a = v + 1 by omega)]
      by_cases l : a < b
      · rw [if_pos l, if_pos (by omega), show Q b + c - (Q (v + 1) + c) = Q b - Q (v + 1) by omega]
        omega
      · rw [if_neg l, if_neg (by omega), show Q (v + 1) + c - (Q b + c) = Q (v + 1) - Q b by omega]
        omega
  · by_cases c3 : a = v + 1
    · have ea : swp v (v + 1) a = v := by unfold swp; rw [if_neg c1, if_pos c3]
      by_cases c2 : b = v
      · have eb : swp v (v + 1) b = v + 1 := by unfold swp; rw [if_pos c2]
        rw [ea, eb, if_neg c1, if_pos c3, if_pos c2, if_neg (by omega), if_pos (by omega)]
        rw [show Q v + c - (Q (v + 1) + c) = -(Q (v + 1) - Q v) by omega]
        omega
      · have eb : swp v (v + 1) b = b := by unfold swp; rw [if_neg c2, if_neg (by omega)]
        rw [ea, eb, if_neg c1, if_pos c3, if_neg c2]
        by_cases l : a < b
        · rw [if_pos l, if_pos (by omega), show Q b + c - (Q v + c) = Q b - Q v by omega]
          omega
        · rw [if_neg l, if_neg (by omega), show Q v + c - (Q b + c) = Q v - Q b by omega]
          omega
    · have ea : swp v (v + 1) a = a := by unfold swp; rw [if_neg c1, if_neg c3]
      rw [ea, if_neg c1, if_neg c3]
      by_cases c2 : b = v
      · have eb : swp v (v + 1) b = v + 1 := by unfold swp; rw [if_pos c2]
        rw [eb]
        by_cases l : a < b
        · rw [if_pos l, if_pos (by omega), show Q (v + 1) + c - (Q a + c) = Q (v + 1) - Q a by omega]
          omega
        · rw [if_neg l, if_neg (by omega), show Q a + c - (Q (v + 1) + c) = Q a - Q (v + 1) by omega]
          omega
      · by_cases c4 : b = v + 1
        · have eb : swp v (v + 1) b = v := by unfold swp; rw [if_neg c2, if_pos c4]
          rw [eb]
          by_cases l : a < b
          · rw [if_pos l, if_pos (by omega), show Q v + c - (Q a + c) = Q v - Q a by omega]
            omega
          · rw [if_neg l, if_neg (by omega), show Q a + c - (Q v + c) = Q a - Q v by omega]
            omega
        · have eb : swp v (v + 1) b = b := by unfold swp; rw [if_neg c2, if_neg c4]
          rw [eb]
          by_cases l : a < b
          · rw [if_pos l, if_pos l, show Q b + c - (Q a + c) = Q b - Q a by omega]
            omega
          · rw [if_neg l, if_neg l, show Q a + c - (Q b + c) = Q a - Q b by omega]
            omega
/-- the last node is fired: the first and the last sum go round -/
theorem cH_end (hT0 : 0 < T) (h3 : 3 ≤ n) {Q Q' : Int → Int} {c x : Int} (hx : x < 0) (hl : Q ((n : Int) - 1) - Q 0 = T - x) (hm : ∀ i : Int, 0 < i → i < (n : Int) - 1 → Q' i = Q i + c) (h0 : Q' 0 = Q ((n : Int) - 1) - T + c) (h1 : Q' ((n : Int) - 1) = Q 0 + T + c) : dS n (cH T Q') = dS n (cH T Q) - 2 := by
  have key := hT_neg hT0 hx
  refine dS_swp (p := 0) (q := (n : Int) - 1) ⟨by omega, by omega⟩ ⟨by omega, by omega⟩ (by omega) fun a b a0 a1 b0 b1 hne => ?_
  unfold cH
  have s0 : swp 0 ((n : Int) - 1) 0 = (n : Int) - 1 := by unfold swp; rw [if_pos rfl]
  have s1 : swp 0 ((n : Int) - 1) ((n : Int) - 1) = 0 := by unfold swp; rw [if_neg (by omega), if_pos rfl]
  have sm : ∀ i : Int, 0 < i → i < (n : Int) - 1 → swp 0 ((n : Int) - 1) i = i := fun i i0 i1 => by unfold swp; rw [if_neg (by omega), if_neg (by omega)]
  have e1 : hT T (Q 0 + T + c - (Q ((n : Int) - 1) - T + c)) = hT T (-x) := by
    rw [show Q 0 + T + c - (Q ((n : Int) - 1) - T + c) = T - (-x) by omega]
    exact hT_flip T _
  have e2 : hT T (Q ((n : Int) - 1) - Q 0) = hT T x := by
    rw [hl]
    exact hT_flip T x
  by_cases c1 : a = 0
  · subst c1
    by_cases c2 : b = (n : Int) - 1
    · subst c2
      rw [s0, s1, if_pos (by omega), if_neg (by omega), if_pos rfl, if_pos rfl, if_neg (by omega), h0, h1, e1, e2]
      omega
    · have hb : 0 < b := by omega
      rw [s0, sm b hb (by omega), if_pos hb, if_neg (by omega), if_pos rfl, if_neg c2, if_neg (by omega), h0, hm b hb (by omega), show Q b + c - (Q ((n : Int) - 1) - T + c) = T - (Q ((n : Int) - 1) - Q b) by omega, hT_flip]
      omega
  · rw [if_neg c1]
    by_cases c3 : a = (n : Int) - 1
    · subst c3
      rw [if_pos rfl, s1]
      by_cases c2 : b = 0
      · subst c2
        rw [s0, if_neg (by omega), if_pos (by omega), if_pos rfl, h0, h1, e1, e2]
        omega
      · have hb : 0 < b := by omega
        rw [sm b hb (by omega), if_neg (by omega), if_pos hb, if_neg c2, h1, hm b hb (by omega), show Q 0 + T + c - (Q b + c) = T - (Q b - Q 0) by omega, hT_flip]
        omega
    · have ha : 0 < a := by omega
      rw [if_neg c3, sm a ha (by omega), hm a ha (by omega)]
      by_cases c2 : b = 0
      · subst c2
        rw [s0, if_neg (by omega), if_pos (by omega), h0, show Q a + c - (Q ((n : Int) - 1) - T + c) = T - (Q ((n : Int) - 1) - Q a) by omega, hT_flip]
        omega
      · by_cases c4 : b = (n : Int) - 1
        · subst c4
          rw [s1, if_pos (by omega), if_neg (by omega), h1, show Q 0 + T + c - (Q a + c) = T - (Q a - Q 0) by omega, hT_flip]
          omega
        · have hb : 0 < b := by omega
          rw [sm b hb (by omega), hm b hb (by omega)]
          by_cases l : a < b
          · rw [if_pos l, if_pos l, show Q b + c - (Q a + c) = Q b - Q a by omega]
            omega
          · rw [if_neg l, if_neg l, show Q a + c - (Q b + c) = Q a - Q b by omega]
            omega
end

section
variable {n : Nat} {x : List Int}
def qF (x : List Int) (i : Int) : Int := at_ (sumsF 0 x) i
theorem sumsF_get : ∀ (zs : List Int) (a : Int) (i : Nat), i ≤ zs.length → (sumsF a zs)[i]? = some (a + (zs.take i).sum)
  | [], a, i, h => by
    have : i = 0 := by simpa using h
    subst this
    show some a = some (a + 0)
    rw [Int.add_zero]
  | z :: zs, a, 0, h => by
    show some a = some (a + 0)
    rw [Int.add_zero]
  | z :: zs, a, i + 1, h => by
    show (sumsF (a + z) zs)[i]? = _
    rw [sumsF_get zs (a + z) i (by simpa using h), List.take_succ_cons, List.sum_cons, ← Int.add_assoc]
theorem qF_eq {i : Int} (i0 : 0 ≤ i) (i1 : i ≤ x.length) : qF x i = (x.take i.toNat).sum := by
  unfold qF at_
  rw [List.getD_eq_getElem?_getD, sumsF_get x 0 i.toNat (by omega), Int.zero_add]
  rfl
theorem qF_zero : qF x 0 = 0 := by
  rw [qF_eq (by omega) (by omega)]
  rfl
theorem qF_last : qF x x.length = x.sum := by
  rw [qF_eq (by omega) (by omega), Int.toNat_natCast, List.take_length]
theorem qF_succ {i : Int} (i0 : 0 ≤ i) (i1 : i < x.length) : qF x (i + 1) = qF x i + at_ x i := by
  rw [qF_eq (by omega) (by omega), qF_eq i0 (by omega), show (i + 1).toNat = i.toNat + 1 by omega]
  have h := at_get (x := x) (j := i.toNat) (by omega)
  rw [List.take_add_one, h, List.sum_append, show ((i.toNat : Nat) : Int) = i by omega]
  show _ + (at_ x i + 0) = _
  rw [Int.add_zero]
/-- the sums of the arcs from a start on -/
def arcN (x : List Int) (s : Nat) : Nat → Int
  | 0 => 0
  | m + 1 => arcN x s m + at_ x (((s + m) % x.length : Nat) : Int)
theorem arcN_eq {s : Nat} (hs : s < x.length) : ∀ m : Nat, m ≤ x.length → arcN x s m = (if s + m < x.length then qF x ((s + m : Nat) : Int) else qF x ((s + m - x.length : Nat) : Int) + x.sum) - qF x s
  | 0, _ => by
    rw [if_pos (by omega)]
    show (0 : Int) = _
    rw [Nat.add_zero]
    omega
  | m + 1, h => by
    have ih := arcN_eq hs m (by omega)
    show arcN x s m + at_ x (((s + m) % x.length : Nat) : Int) = _
    rw [ih]
    by_cases c : s + m < x.length
    · rw [if_pos c, Nat.mod_eq_of_lt c]
      have e := qF_succ (x := x) (i := ((s + m : Nat) : Int)) (by omega) (by omega)
      by_cases d : s + (m + 1) < x.length
      · rw [if_pos d, show ((s + (m + 1) : Nat) : Int) = ((s + m : Nat) : Int) + 1 by omega, e]
        omega
      · rw [if_neg d, show s + (m + 1) - x.length = 0 by omega]
        have e2 := qF_last (x := x)
        rw [show ((x.length : Nat) : Int) = ((s + m : Nat) : Int) + 1 by omega, e] at e2
        have e3 := qF_zero (x := x)
        rw [show ((0 : Nat) : Int) = 0 from rfl, e3]
        omega
    · rw [if_neg c, if_neg (by omega), show (s + m) % x.length = s + m - x.length by rw [Nat.mod_eq_sub_mod (by omega), Nat.mod_eq_of_lt (by omega)]]
      have e := qF_succ (x := x) (i := ((s + m - x.length : Nat) : Int)) (by omega) (by omega)
      rw [show ((s + (m + 1) - x.length : Nat) : Int) = ((s + m - x.length : Nat) : Int) + 1 by omega, e]
      omega
def arcsF (x : List Int) : List Int := (List.range x.length).flatMap fun s => (List.range (x.length - 1)).map fun m => arcN x s (m + 1)
def csF (x : List Int) : Int := ((arcsF x).map (gT x.sum)).sum
def gG (x : List Int) (a b : Int) : Int := gT x.sum (if a < b then qF x b - qF x a else qF x b + x.sum - qF x a)
theorem sum_flat {α : Type} (l : List α) (f : α → List Int) (g : Int → Int) : ((l.flatMap f).map g).sum = (l.map fun a => ((f a).map g).sum).sum := by
  induction l with
  | nil => rfl
  | cons a l ih => rw [List.flatMap_cons, List.map_append, List.sum_append, ih, List.map_cons, List.sum_cons]
theorem rot_range {s : Nat} (hs : s < n) : (List.range n).map (fun m => (s + m) % n) = List.range' s (n - s) ++ List.range s := by
  refine List.ext_getElem? fun i => ?_
  rw [List.getElem?_map]
  by_cases h : i < n
  · rw [List.getElem?_range h]
    by_cases c : i < n - s
    · rw [List.getElem?_append_left (by rw [List.length_range']; exact c), List.getElem?_range' c]
      show some ((s + i) % n) = _
      rw [Nat.mod_eq_of_lt (by omega)]
      congr 1
      omega
    · rw [List.getElem?_append_right (by rw [List.length_range']; omega), List.length_range', List.getElem?_range (by omega)]
      show some ((s + i) % n) = _
      rw [Nat.mod_eq_sub_mod (by omega), Nat.mod_eq_of_lt (by omega)]
      congr 1
      omega
  · rw [List.getElem?_eq_none (by rw [List.length_range]; omega), List.getElem?_eq_none (by rw [List.length_append, List.length_range', List.length_range]; omega)]
    rfl
theorem sumN_rot {s : Nat} (hs : s < n) (F : Int → Int) : ((List.range n).map fun m => F (((s + m) % n : Nat) : Int)).sum = sumN n F := by
  have e : (List.range n).map (fun m => F (((s + m) % n : Nat) : Int)) = ((List.range n).map fun m => (s + m) % n).map fun i : Nat => F (i : Int) := by
    rw [List.map_map]
    rfl
  rw [e, rot_range hs, List.map_append, List.sum_append, Int.add_comm, ← List.sum_append, ← List.map_append]
  have e2 : List.range s ++ List.range' s (n - s) = List.range n := by
    rw [List.range_eq_range', List.range_eq_range']
    have := List.range'_append_1 (s := 0) (m := s) (n := n - s)
    rw [Nat.zero_add] at this
    rw [this, show s + (n - s) = n by omega]
  rw [e2]
  unfold sumN ndL
  rw [List.map_map]
  rfl
theorem row_sum (h1 : 1 ≤ x.length) {s : Nat} (hs : s < x.length) : (((List.range (x.length - 1)).map fun m => arcN x s (m + 1)).map (gT x.sum)).sum = sumN x.length fun b => if (s : Int) = b then 0 else gG x s b := by
  rw [← sumN_rot hs]
  obtain ⟨k, hk⟩ : ∃ k, x.length = k + 1 := ⟨x.length - 1, by omega⟩
  rw [show (List.range x.length) = 0 :: (List.range (x.length - 1)).map (· + 1) by rw [hk, Nat.add_sub_cancel, List.range_succ_eq_map], List.map_cons, List.sum_cons, List.map_map, List.map_map, if_pos (by rw [Nat.add_zero, Nat.mod_eq_of_lt hs]), Int.zero_add]
  congr 1
  refine List.map_congr_left fun m hm => ?_
  have hm := List.mem_range.mp hm
  show gT x.sum (arcN x s (m + 1)) = if (s : Int) = (((s + (m + 1)) % x.length : Nat) : Int) then 0 else gG x s (((s + (m + 1)) % x.length : Nat) : Int)
  rw [arcN_eq hs (m + 1) (by omega)]
  by_cases c : s + (m + 1) < x.length
  · rw [if_pos c, Nat.mod_eq_of_lt c, if_neg (by omega)]
    unfold gG
    rw [if_pos (by omega)]
  · rw [if_neg c, Nat.mod_eq_sub_mod (by omega), Nat.mod_eq_of_lt (by omega), if_neg (by omega)]
    unfold gG
    rw [if_neg (by omega)]
theorem csF_two (h1 : 1 ≤ x.length) : 2 * csF x = dS x.length (cH x.sum (qF x)) := by
  have e : csF x = sumN x.length fun a => sumN x.length fun b => if a = b then 0 else gG x a b := by
    unfold csF arcsF
    rw [sum_flat]
    show _ = ((ndL x.length).map _).sum
    unfold ndL
    rw [List.map_map]
    congr 1
    refine List.map_congr_left fun s hs => ?_
    exact row_sum h1 (List.mem_range.mp hs)
  have e2 : csF x = sumN x.length fun a => sumN x.length fun b => if a = b then 0 else gG x b a := by
    rw [e]
    rw [sumN_swap]
    refine sumN_congr fun a _ _ => sumN_congr fun b _ _ => ?_
    by_cases c : a = b
    · rw [if_pos c, if_pos c.symm]
    · rw [if_neg c, if_neg (fun z => c z.symm)]
  have e3 : 2 * csF x = csF x + csF x := by omega
  rw [e3]
  conv => lhs; arg 1; rw [e]
  conv => lhs; arg 2; rw [e2]
  rw [← sumN_add]
  unfold dS
  refine sumN_congr fun a a0 a1 => ?_
  rw [← sumN_add]
  refine sumN_congr fun b b0 b1 => ?_
  by_cases c : a = b
  · rw [if_pos c, if_pos c, if_pos c]
    rfl
  · rw [if_neg c, if_neg c, if_neg c]
    unfold gG cH hT
    by_cases l : a < b
    · rw [if_pos l, if_pos l, if_neg (by omega), show qF x a + x.sum - qF x b = x.sum - (qF x b - qF x a) by omega]
    · rw [if_neg l, if_neg l, if_pos (by omega), show qF x b + x.sum - qF x a = x.sum - (qF x a - qF x b) by omega]
      exact Int.add_comm _ _
/-! firing -/
def fireC (n : Nat) (x : List Int) (v : Int) : List Int := (ndL n).map fun j => if j = v then 0 - at_ x v else if j = (v - 1) % n ∨ j = (v + 1) % n then at_ x j + at_ x v else at_ x j
theorem fireC_len (n : Nat) (x : List Int) (v : Int) : (fireC n x v).length = n := by
  unfold fireC
  rw [List.length_map, ndL_len]
theorem at_nd2 {g : Int → Int} {v : Int} (v0 : 0 ≤ v) (v1 : v < n) : at_ ((ndL n).map g) v = g v := by
  unfold at_
  rw [List.getD_eq_getElem?_getD, List.getElem?_map, ndL_get (by omega)]
  show g ((v.toNat : Nat) : Int) = _
  rw [show ((v.toNat : Nat) : Int) = v by omega]
theorem at_fireC {v j : Int} (j0 : 0 ≤ j) (j1 : j < n) : at_ (fireC n x v) j = if j = v then 0 - at_ x v else if j = (v - 1) % n ∨ j = (v + 1) % n then at_ x j + at_ x v else at_ x j := at_nd2 j0 j1
theorem q_in (hl : x.length = n) {v : Int} (v0 : 1 ≤ v) (v1 : v + 1 < n) : ∀ i : Nat, i ≤ n → qF (fireC n x v) i = qF x (swp v (v + 1) i)
  | 0, _ => by
    rw [show ((0 : Nat) : Int) = 0 from rfl, qF_zero, show swp v (v + 1) 0 = 0 by unfold swp; rw [if_neg (by omega), if_neg (by omega)], qF_zero]
  | i + 1, h => by
    have ih := q_in hl v0 v1 i (by omega)
    have e := qF_succ (x := fireC n x v) (i := (i : Int)) (by omega) (by rw [fireC_len]; omega)
    rw [show ((i + 1 : Nat) : Int) = (i : Int) + 1 by omega, e, ih, at_fireC (by omega) (by omega), Int.emod_eq_of_lt (show 0 ≤ v - 1 by omega) (by omega), Int.emod_eq_of_lt (show 0 ≤ v + 1 by omega) (by omega)]
    have q1 := qF_succ (x := x) (i := (i : Int)) (by omega) (by omega)
    unfold swp
    by_cases a : (i : Int) = v
    · have q2 := qF_succ (x := x) (i := v) (by omega) (by omega)
      rw [if_pos a, if_pos a, if_neg (by omega), if_pos (by omega), q2]
      omega
    · rw [if_neg a, if_neg a]
      by_cases b : (i : Int) = v + 1
      · have q2 := qF_succ (x := x) (i := v) (by omega) (by omega)
        rw [if_pos b, if_pos (.inr b), if_neg (by omega), if_neg (by omega), q1, b, q2]
        omega
      · rw [if_neg b]
        by_cases c : (i : Int) = v - 1
        · have q2 := qF_succ (x := x) (i := v) (by omega) (by omega)
          rw [if_pos (.inl c), if_pos (by omega), q2]
          rw [show (i : Int) + 1 = v by omega] at q1
          omega
        · rw [if_neg (by omega), if_neg (by omega), if_neg (by omega), q1]
theorem q_first (hl : x.length = n) (h3 : 3 ≤ n) : ∀ i : Nat, i < n → qF (fireC n x 0) i = qF x (swp 0 1 i) - at_ x 0
  | 0, _ => by
    have q2 := qF_succ (x := x) (i := 0) (by omega) (by omega)
    rw [show ((0 : Nat) : Int) = 0 from rfl, qF_zero, show swp 0 1 0 = 1 by unfold swp; rw [if_pos rfl], show (1 : Int) = 0 + 1 from rfl, q2, qF_zero]
    omega
  | i + 1, h => by
    have ih := q_first hl h3 i (by omega)
    have e := qF_succ (x := fireC n x 0) (i := (i : Int)) (by omega) (by rw [fireC_len]; omega)
    have m1 : ((0 : Int) - 1) % n = n - 1 := by
      rw [show (0 : Int) - 1 = (n - 1) + n * (-1) by omega, Int.add_mul_emod_self_left, Int.emod_eq_of_lt (by omega) (by omega)]
    rw [show ((i + 1 : Nat) : Int) = (i : Int) + 1 by omega, e, ih, at_fireC (by omega) (by omega), m1, Int.emod_eq_of_lt (show (0 : Int) ≤ 0 + 1 by omega) (by omega)]
    have q1 := qF_succ (x := x) (i := (i : Int)) (by omega) (by omega)
    have q2 := qF_succ (x := x) (i := 0) (by omega) (by omega)
    rw [qF_zero] at q2
    unfold swp
    by_cases a : (i : Int) = 0
    · rw [if_pos a, if_pos a, if_neg (by omega), if_pos (by omega), qF_zero, show (1 : Int) = 0 + 1 from rfl, q2]
      omega
    · rw [if_neg a, if_neg a]
      by_cases b : (i : Int) = 1
      · rw [if_pos b, if_pos (.inr b), if_neg (by omega), if_neg (by omega), q1, qF_zero, b, show (1 : Int) = 0 + 1 from rfl, q2]
        omega
      · rw [if_neg b, if_neg (by omega), if_neg (by omega), if_neg (by omega), q1]
        omega
theorem q_last (hl : x.length = n) (h3 : 3 ≤ n) {v : Int} (hv : v = (n : Int) - 1) : ∀ i : Nat, i < n → qF (fireC n x v) i = if i = 0 then 0 else if (i : Int) = v then qF x v + 2 * at_ x v else qF x i + at_ x v
  | 0, _ => by
    rw [if_pos rfl]
    exact qF_zero
  | i + 1, h => by
    have ih := q_last hl h3 hv i (by omega)
    have e := qF_succ (x := fireC n x v) (i := (i : Int)) (by omega) (by rw [fireC_len]; omega)
    have m1 : (v + 1) % n = 0 := by
      rw [show v + 1 = (n : Int) by omega, Int.emod_self]
    rw [show ((i + 1 : Nat) : Int) = (i : Int) + 1 by omega, e, ih, at_fireC (by omega) (by omega), m1, Int.emod_eq_of_lt (show 0 ≤ v - 1 by omega) (by omega)]
    have q1 := qF_succ (x := x) (i := (i : Int)) (by omega) (by omega)
    rw [if_neg (show ¬ (i + 1 = 0) by omega), if_neg (show ¬ (i : Int) = v by omega)]
    by_cases a : i = 0
    · subst a
      rw [show ((0 : Nat) : Int) = 0 from rfl] at q1 ⊢
      rw [qF_zero] at q1
      rw [if_pos rfl, if_neg (show ¬ (0 : Int) = v by omega), if_pos (.inr rfl), if_neg (show ¬ (0 : Int) + 1 = v by omega), q1]
      omega
    · rw [if_neg a, if_neg (show ¬ (i : Int) = v by omega)]
      by_cases b : (i : Int) = v - 1
      · rw [if_pos (.inl b), if_pos (by omega)]
        rw [show (i : Int) + 1 = v by omega] at q1
        rw [q1]
        omega
      · rw [if_neg (by omega), if_neg (by omega), q1]
        omega
end

section
variable {n : Nat} {x : List Int} {v : Int}
theorem fire_q (hl : x.length = n) (h3 : 3 ≤ n) (v0 : 0 ≤ v) (v1 : v < n) : ∃ (p q c : Int) (e : Int → Int), (0 ≤ p ∧ p < n) ∧ (0 ≤ q ∧ q < n) ∧ (∀ i : Int, 0 ≤ i → i < n → qF (fireC n x v) i = qF x (swp p q i) + x.sum * e i + c) ∧ sumN n e = 0 := by
  by_cases a : v = (n : Int) - 1
  · have q2 := qF_succ (x := x) (i := v) (by omega) (by omega)
    rw [show v + 1 = ((x.length : Nat) : Int) by omega, qF_last] at q2
    refine ⟨0, (n : Int) - 1, at_ x v, fun i => (if i = 0 then -1 else 0) + (if i = (n : Int) - 1 then 1 else 0), ⟨by omega, by omega⟩, ⟨by omega, by omega⟩, fun i i0 i1 => ?_, ?_⟩
    · have h := q_last hl h3 a i.toNat (by omega)
      rw [show ((i.toNat : Nat) : Int) = i by omega] at h
      rw [h]
      unfold swp
      dsimp only
      by_cases b : i = 0
      · subst b
        rw [if_pos rfl, if_pos rfl, if_pos (show Int.toNat 0 = 0 from rfl), if_neg (by omega), ← a]
        rw [show x.sum * (-1 + 0) = -x.sum by omega]
        omega
      · rw [if_neg (show ¬ i.toNat = 0 by omega), if_neg b, if_neg b]
        by_cases d : i = v
        · rw [if_pos d, if_pos (by omega), if_pos (by omega), qF_zero, show x.sum * (0 + 1) = x.sum by omega]
          omega
        · rw [if_neg d, if_neg (by omega), if_neg (by omega), show x.sum * (0 + 0) = 0 by omega]
          omega
    · rw [sumN_add, sumN_single _ (by omega) (by omega), sumN_single _ (by omega) (by omega)]
      rfl
  · by_cases b : v = 0
    · refine ⟨0, 1, -at_ x 0, fun _ => 0, ⟨by omega, by omega⟩, ⟨by omega, by omega⟩, fun i i0 i1 => ?_, sumN_zero fun _ _ _ => rfl⟩
      have h := q_first hl h3 i.toNat (by omega)
      rw [show ((i.toNat : Nat) : Int) = i by omega] at h
      rw [b, h, Int.mul_zero]
      omega
    · refine ⟨v, v + 1, 0, fun _ => 0, ⟨by omega, by omega⟩, ⟨by omega, by omega⟩, fun i i0 i1 => ?_, sumN_zero fun _ _ _ => rfl⟩
      have h := q_in hl (v := v) (by omega) (by omega) i.toNat (by omega)
      rw [show ((i.toNat : Nat) : Int) = i by omega] at h
      rw [h, Int.mul_zero]
      omega
theorem fire_sum (hl : x.length = n) (h3 : 3 ≤ n) (v0 : 0 ≤ v) (v1 : v < n) : (fireC n x v).sum = x.sum := by
  have e1 := qF_last (x := fireC n x v)
  have e2 := qF_last (x := x)
  rw [fireC_len] at e1
  rw [hl] at e2
  rw [← e1, ← e2]
  by_cases c : v + 1 < n ∧ 1 ≤ v
  · rw [q_in hl c.2 c.1 n (Nat.le_refl n)]
    unfold swp
    rw [if_neg (by omega), if_neg (by omega)]
  · have s1 := qF_succ (x := fireC n x v) (i := (n : Int) - 1) (by omega) (by rw [fireC_len]; omega)
    have s2 := qF_succ (x := x) (i := (n : Int) - 1) (by omega) (by omega)
    rw [show (n : Int) - 1 + 1 = n by omega] at s1 s2
    rw [s1, s2]
    by_cases a : v = (n : Int) - 1
    · have h := q_last hl h3 a (n - 1) (by omega)
      rw [if_neg (by omega), if_pos (by omega), show ((n - 1 : Nat) : Int) = (n : Int) - 1 by omega] at h
      rw [h, at_fireC (by omega) (by omega), if_pos a.symm, a]
      omega
    · have b : v = 0 := by omega
      subst b
      have h := q_first hl h3 (n - 1) (by omega)
      rw [show ((n - 1 : Nat) : Int) = (n : Int) - 1 by omega, show swp 0 1 ((n : Int) - 1) = (n : Int) - 1 by unfold swp; rw [if_neg (by omega), if_neg (by omega)]] at h
      have m1 : ((0 : Int) - 1) % n = n - 1 := by
        rw [show (0 : Int) - 1 = (n - 1) + n * (-1) by omega, Int.add_mul_emod_self_left, Int.emod_eq_of_lt (by omega) (by omega)]
      rw [h, at_fireC (by omega) (by omega), if_neg (by omega), m1, if_pos (.inl rfl)]
      omega
/-- each firing of a negative node lowers the count by one -/
theorem cs_fire (hl : x.length = n) (h3 : 3 ≤ n) (hT : 0 < x.sum) (v0 : 0 ≤ v) (v1 : v < n) (hx : at_ x v < 0) : csF (fireC n x v) = csF x - 1 := by
  have e1 := csF_two (x := fireC n x v) (by rw [fireC_len]; omega)
  have e2 := csF_two (x := x) (by omega)
  rw [fireC_len, fire_sum hl h3 v0 v1] at e1
  rw [hl] at e2
  have q2 := qF_succ (x := x) (i := v) (by omega) (by omega)
  have key : dS n (cH x.sum (qF (fireC n x v))) = dS n (cH x.sum (qF x)) - 2 := by
    by_cases a : v = (n : Int) - 1
    · rw [show v + 1 = ((x.length : Nat) : Int) by omega, qF_last] at q2
      refine cH_end hT h3 (x := at_ x v) (c := at_ x v) hx (by rw [qF_zero, ← a]; omega) (fun i i0 i1 => ?_) ?_ ?_
      · have h := q_last hl h3 a i.toNat (by omega)
        rw [show ((i.toNat : Nat) : Int) = i by omega, if_neg (by omega), if_neg (by omega)] at h
        exact h
      · rw [qF_zero, ← a]
        omega
      · have h := q_last hl h3 a (n - 1) (by omega)
        rw [if_neg (by omega), if_pos (by omega), show ((n - 1 : Nat) : Int) = (n : Int) - 1 by omega] at h
        rw [h, qF_zero]
        omega
    · by_cases b : v = 0
      · refine cH_in hT (v := v) (c := -at_ x 0) v0 (by omega) (by omega) fun i i0 i1 => ?_
        have h := q_first hl h3 i.toNat (by omega)
        rw [show ((i.toNat : Nat) : Int) = i by omega] at h
        rw [b, h]
        rfl
      · refine cH_in hT (v := v) (c := 0) v0 (by omega) (by omega) fun i i0 i1 => ?_
        have h := q_in hl (v := v) (by omega) (by omega) i.toNat (by omega)
        rw [show ((i.toNat : Nat) : Int) = i by omega] at h
        rw [h, Int.add_zero]
  omega
theorem sum_nnL {l : List Int} (h : ∀ z ∈ l, 0 ≤ z) : 0 ≤ l.sum := by
  induction l with
  | nil => exact Int.le_refl 0
  | cons a l ih =>
    rw [List.sum_cons]
    have := h a List.mem_cons_self
    have := ih fun z hz => h z (List.mem_cons_of_mem _ hz)
    omega
theorem sum_ge {l : List Int} (h : ∀ z ∈ l, 0 ≤ z) {a : Int} (ha : a ∈ l) : a ≤ l.sum := by
  induction l with
  | nil => cases ha
  | cons b l ih =>
    rw [List.sum_cons]
    have hb := h b List.mem_cons_self
    have hn := sum_nnL fun z hz => h z (List.mem_cons_of_mem _ hz)
    rcases List.mem_cons.mp ha with rfl | ha
    · omega
    · have := ih (fun z hz => h z (List.mem_cons_of_mem _ hz)) ha
      omega
theorem cs_nn (hT : 0 < x.sum) : 0 ≤ csF x := sum_nnL fun z hz => by
  obtain ⟨d, _, rfl⟩ := List.mem_map.mp hz
  exact gT_nn hT d
theorem arc_mem {s m : Nat} (hs : s < x.length) (hm : m < x.length - 1) : arcN x s (m + 1) ∈ arcsF x := List.mem_flatMap.mpr ⟨s, List.mem_range.mpr hs, List.mem_map.mpr ⟨m, List.mem_range.mpr hm, rfl⟩⟩
theorem cs_pos (hl : x.length = n) (h3 : 3 ≤ n) (hT : 0 < x.sum) (v0 : 0 ≤ v) (v1 : v < n) (hx : at_ x v < 0) : 1 ≤ csF x := by
  have h := arc_mem (x := x) (s := v.toNat) (m := 0) (by omega) (by omega)
  have e : arcN x v.toNat (0 + 1) = at_ x v := by
    show 0 + at_ x (((v.toNat + 0) % x.length : Nat) : Int) = _
    rw [Nat.add_zero, Nat.mod_eq_of_lt (by omega), show ((v.toNat : Nat) : Int) = v by omega, Int.zero_add]
  rw [e] at h
  have h1 := gT_pos hT hx
  have h2 := sum_ge (l := (arcsF x).map (gT x.sum)) (fun z hz => by
    obtain ⟨d, _, rfl⟩ := List.mem_map.mp hz
    exact gT_nn hT d) (List.mem_map_of_mem h)
  exact Int.le_trans h1 h2
theorem arcN_nn (h : ∀ v : Int, 0 ≤ v → v < x.length → 0 ≤ at_ x v) (h1 : 1 ≤ x.length) (s : Nat) : ∀ m : Nat, 0 ≤ arcN x s m
  | 0 => Int.le_refl 0
  | m + 1 => by
    show 0 ≤ arcN x s m + _
    have := arcN_nn h h1 s m
    have := h (((s + m) % x.length : Nat) : Int) (by omega) (by have := Nat.mod_lt (s + m) (show 0 < x.length by omega); omega)
    omega
theorem cs_zero (h1 : 1 ≤ x.length) (h : ∀ v : Int, 0 ≤ v → v < x.length → 0 ≤ at_ x v) : csF x = 0 := by
  have e : (arcsF x).map (gT x.sum) = (arcsF x).map fun _ => 0 := List.map_congr_left fun d hd => by
    obtain ⟨s, _, hd⟩ := List.mem_flatMap.mp hd
    obtain ⟨m, _, rfl⟩ := List.mem_map.mp hd
    unfold gT
    rw [if_neg (by have := arcN_nn h h1 s (m + 1); omega)]
  unfold csF
  rw [e]
  generalize arcsF x = l
  induction l with
  | nil => rfl
  | cons a l ih => rw [List.map_cons, List.sum_cons, ih]; rfl
end
/-! ends -/
section
variable {T : Int} {s s' w w' : List Int}
structure Win (T : Int) (s w : List Int) : Prop where
  srt : w.Pairwise (· ≤ ·)
  spr : ∀ a ∈ w, ∀ b ∈ w, a ≤ b + T
  res : (w.map (· % T)).Perm (s.map (· % T))
  sum : w.sum = s.sum
theorem Win.len (h : Win T s w) : w.length = s.length := by
  have := h.res.length_eq
  rwa [List.length_map, List.length_map] at this
theorem perm_sumL {l m : List Int} (h : l.Perm m) : l.sum = m.sum := by
  induction h with
  | nil => rfl
  | cons x _ ih => rw [List.sum_cons, List.sum_cons, ih]
  | swap x y l => simp only [List.sum_cons]; omega
  | trans _ _ h1 h2 => rw [h1, h2]
/-- how many steps of the sequence are not above a bound, up to a constant -/
def cnT (T t : Int) (w : List Int) : Int := (w.map fun z => (t - z) / T).sum
theorem cnT_eq (hT : 0 < T) (t : Int) (w : List Int) : T * cnT T t w = T * ((w.map (· % T)).map fun r => (t - r) / T).sum - (w.sum - (w.map (· % T)).sum) := by
  unfold cnT
  induction w with
  | nil => simp
  | cons z w ih =>
    simp only [List.map_cons, List.sum_cons, Int.mul_add]
    have h1 := Int.mul_ediv_add_emod z T
    have e : (t - z) / T = (t - z % T) / T - z / T := by
      rw [show t - z = (t - z % T) + T * (-(z / T)) by rw [Int.mul_neg]; omega, Int.add_mul_ediv_left _ _ (by omega)]
      omega
    rw [e, Int.mul_sub]
    simp only [List.map_map] at ih ⊢
    omega
theorem cnT_win (hT : 0 < T) (h : Win T s w) (h' : Win T s w') (t : Int) : cnT T t w = cnT T t w' := by
  have e1 := cnT_eq hT t w
  have e2 := cnT_eq hT t w'
  have p : (w.map (· % T)).Perm (w'.map (· % T)) := h.res.trans h'.res.symm
  rw [perm_sumL p, perm_sumL (p.map fun r => (t - r) / T), h.sum, ← h'.sum] at e1
  exact Int.eq_of_mul_eq_mul_left (by omega) (e1.trans e2.symm)
theorem sum_negL (l : List Int) (f : Int → Int) : (l.map fun a => -(f a)).sum = -(l.map f).sum := by
  induction l with
  | nil => rfl
  | cons c l ih =>
    rw [List.map_cons, List.map_cons, List.sum_cons, List.sum_cons, ih]
    omega
theorem top_le (hT : 0 < T) (h : Win T s w) (h' : Win T s w') {M : Int} (hM : M ∈ w) (hw : ∀ z ∈ w, z ≤ M) : ∀ z ∈ w', z ≤ M := by
  intro z hz
  apply Classical.byContradiction
  intro hn
  have c1 : 0 ≤ cnT T M w := sum_nnL fun y hy => by
    obtain ⟨a, ha, rfl⟩ := List.mem_map.mp hy
    have := hw a ha
    exact Int.ediv_nonneg (by omega) (by omega)
  have c2 : cnT T M w' ≤ -1 := by
    have key : ∀ l : List Int, (∀ a ∈ l, M - a < T) → (∃ a ∈ l, M < a) → (l.map fun a => (M - a) / T).sum ≤ -1 := by
      intro l
      induction l with
      | nil => intro _ ⟨a, ha, _⟩; cases ha
      | cons b l ih =>
        intro h1 ⟨a, ha, h2⟩
        rw [List.map_cons, List.sum_cons]
        have hb : (M - b) / T ≤ 0 := by
          have := Int.ediv_lt_of_lt_mul hT (show M - b < 1 * T by have := h1 b List.mem_cons_self; omega)
          omega
        have hl : (l.map fun a => (M - a) / T).sum ≤ 0 := by
          have : 0 ≤ (l.map fun a => -((M - a) / T)).sum := sum_nnL fun y hy => by
            obtain ⟨c, hc, rfl⟩ := List.mem_map.mp hy
            have := Int.ediv_lt_of_lt_mul hT (show M - c < 1 * T by have := h1 c (List.mem_cons_of_mem _ hc); omega)
            omega
          have e := sum_negL l fun a => (M - a) / T
          omega
        rcases List.mem_cons.mp ha with rfl | ha
        · have := Int.ediv_lt_of_lt_mul hT (show M - a < 0 * T by omega)
          omega
        · have := ih (fun c hc => h1 c (List.mem_cons_of_mem _ hc)) ⟨a, ha, h2⟩
          omega
    exact key w' (fun a ha => by have := h'.spr z hz a ha; omega) ⟨z, hz, by omega⟩
  have := cnT_win hT h h' M
  omega
theorem cnt_above (hT : 0 < T) {M t : Int} (h1 : ∀ z ∈ w, z ≤ M) (h2 : ∀ z ∈ w, M ≤ z + T) (t1 : t < M) (t0 : M ≤ t + T) : cnT T t w = -((w.filter fun z => decide (t < z)).length : Int) := by
  unfold cnT
  induction w with
  | nil => rfl
  | cons z w ih =>
    have a1 := h1 z List.mem_cons_self
    have a2 := h2 z List.mem_cons_self
    have ih := ih (fun y hy => h1 y (List.mem_cons_of_mem _ hy)) fun y hy => h2 y (List.mem_cons_of_mem _ hy)
    rw [List.map_cons, List.sum_cons, ih, List.filter_cons]
    by_cases c : t < z
    · rw [if_pos (decide_eq_true c), List.length_cons]
      have e : (t - z) / T = -1 := by
        have := Int.ediv_lt_of_lt_mul hT (show t - z < 0 * T by omega)
        have := (Int.le_ediv_iff_mul_le hT).mpr (show -1 * T ≤ t - z by omega)
        omega
      omega
    · rw [if_neg (by rw [decide_eq_true_eq]; exact c), Int.ediv_eq_zero_of_lt (by omega) (by omega)]
      omega
theorem max_mem : ∀ {l : List Int}, l ≠ [] → ∃ M ∈ l, ∀ z ∈ l, z ≤ M
  | [], h => absurd rfl h
  | [a], _ => ⟨a, List.mem_cons_self, fun z hz => by cases List.mem_singleton.mp hz; exact Int.le_refl _⟩
  | a :: b :: l, _ => by
    obtain ⟨M, hM, h⟩ := max_mem (l := b :: l) (by simp)
    by_cases c : a ≤ M
    · exact ⟨M, List.mem_cons_of_mem _ hM, fun z hz => by
        rcases List.mem_cons.mp hz with rfl | hz
        · exact c
        · exact h z hz⟩
    · exact ⟨a, List.mem_cons_self, fun z hz => by
        rcases List.mem_cons.mp hz with rfl | hz
        · exact Int.le_refl _
        · have := h z hz
          omega⟩
theorem above_eq (h : ∀ t : Int, (w.filter fun z => decide (t < z)).length = (w'.filter fun z => decide (t < z)).length) : w.Perm w' := by
  rw [List.perm_iff_count]
  intro a
  have key : ∀ l : List Int, (l.filter fun z => decide (a - 1 < z)).length = (l.filter fun z => decide (a < z)).length + l.count a := by
    intro l
    induction l with
    | nil => rfl
    | cons z l ih =>
      rw [List.filter_cons, List.filter_cons, List.count_cons]
      by_cases c : a < z
      · rw [if_pos (decide_eq_true (show a - 1 < z by omega)), if_pos (decide_eq_true c), List.length_cons, List.length_cons, ih, if_neg (by simp; omega)]
        omega
      · by_cases d : a = z
        · rw [if_pos (decide_eq_true (show a - 1 < z by omega)), if_neg (by rw [decide_eq_true_eq]; exact c), List.length_cons, ih, if_pos (by simp [d])]
          omega
        · rw [if_neg (by rw [decide_eq_true_eq]; omega), if_neg (by rw [decide_eq_true_eq]; exact c), ih, if_neg (by simp; omega)]
          omega
  have k1 := key w
  have k2 := key w'
  have h1 := h (a - 1)
  have h2 := h a
  omega
theorem win_uniq (hT : 0 < T) (h : Win T s w) (h' : Win T s w') : w = w' := by
  have hl : w.length = w'.length := by rw [h.len, h'.len]
  refine (above_eq fun t => ?_).eq_of_pairwise (le := (· ≤ ·)) (fun a b _ _ h1 h2 => by omega) h.srt h'.srt
  by_cases e : w = []
  · have : w' = [] := List.eq_nil_of_length_eq_zero (by rw [← hl, e]; rfl)
    rw [e, this]
  · have e' : w' ≠ [] := fun z => e (List.eq_nil_of_length_eq_zero (by rw [hl, z]; rfl))
    obtain ⟨M, hM, m1⟩ := max_mem e
    obtain ⟨M', hM', m1'⟩ := max_mem e'
    have hMM : M = M' := by
      have a := top_le hT h h' hM m1 M' hM'
      have b := top_le hT h' h hM' m1' M hM
      omega
    subst hMM
    by_cases c : t < M
    · by_cases d : M ≤ t + T
      · have a := cnt_above hT m1 (fun z hz => h.spr M hM z hz) c d
        have b := cnt_above hT m1' (fun z hz => h'.spr M hM' z hz) c d
        have := cnT_win hT h h' t
        omega
      · rw [List.filter_eq_self.mpr fun z hz => decide_eq_true (by have := h.spr M hM z hz; omega), List.filter_eq_self.mpr fun z hz => decide_eq_true (by have := h'.spr M hM' z hz; omega)]
        exact hl
    · rw [List.filter_eq_nil_iff.mpr fun z hz => by
        rw [decide_eq_true_eq]
        have := m1 z hz
        omega, List.filter_eq_nil_iff.mpr fun z hz => by
        rw [decide_eq_true_eq]
        have := m1' z hz
        omega]
end

section
variable {T : Int} {s w : List Int}
theorem div_sum (T : Int) (s : List Int) : s.sum - (s.map (· % T)).sum = T * (s.map (· / T)).sum := by
  induction s with
  | nil => simp
  | cons z s ih =>
    rw [List.map_cons, List.map_cons, List.sum_cons, List.sum_cons, List.sum_cons, Int.mul_add, ← ih]
    have := Int.mul_ediv_add_emod z T
    omega
theorem sum_addc (l : List Int) (c : Int) : (l.map (· + c)).sum = l.sum + l.length * c := by
  induction l with
  | nil => simp
  | cons z l ih =>
    rw [List.map_cons, List.sum_cons, List.sum_cons, ih, List.length_cons, show ((l.length + 1 : Nat) : Int) = (l.length : Int) + 1 by omega, Int.add_mul]
    omega
theorem win_mk (hT : 0 < T) {rests : List Int} {place : Nat} {turns : Int} (hr : rests.Perm (s.map (· % T))) (hs : rests.Pairwise (· ≤ ·)) (hp : place ≤ s.length) (hsum : s.sum = rests.sum + T * (turns * s.length + place)) : Win T s ((rests.drop place).map (· + turns * T) ++ (rests.take place).map (· + (turns + 1) * T)) := by
  have hb : ∀ r ∈ rests, 0 ≤ r ∧ r < T := fun r h => by
    obtain ⟨z, _, rfl⟩ := List.mem_map.mp (hr.mem_iff.mp h)
    exact ⟨Int.emod_nonneg _ (by omega), Int.emod_lt_of_pos _ hT⟩
  have hlen : rests.length = s.length := by rw [hr.length_eq, List.length_map]
  have hd : ∀ r ∈ rests.drop place, 0 ≤ r ∧ r < T := fun r h => hb r (List.mem_of_mem_drop h)
  have ht : ∀ r ∈ rests.take place, 0 ≤ r ∧ r < T := fun r h => hb r (List.mem_of_mem_take h)
  have hcross : ∀ a ∈ rests.take place, ∀ b ∈ rests.drop place, a ≤ b := by
    rw [← List.take_append_drop place rests] at hs
    exact (List.pairwise_append.mp hs).2.2
  have hmul : (turns + 1) * T = turns * T + T := by rw [Int.add_mul, Int.one_mul]
  refine ⟨List.pairwise_append.mpr ⟨?_, ?_, ?_⟩, ?_, ?_, ?_⟩
  · exact List.pairwise_map.mpr ((hs.sublist (List.drop_sublist ..)).imp fun h => by omega)
  · exact List.pairwise_map.mpr ((hs.sublist (List.take_sublist ..)).imp fun h => by omega)
  · intro a ha b hb
    obtain ⟨r, hr1, rfl⟩ := List.mem_map.mp ha
    obtain ⟨r2, hr2, rfl⟩ := List.mem_map.mp hb
    have := hd r hr1
    have := ht r2 hr2
    omega
  · intro a ha b hb
    rcases List.mem_append.mp ha with ha | ha <;> rcases List.mem_append.mp hb with hb | hb
    all_goals
      obtain ⟨r, hr1, rfl⟩ := List.mem_map.mp ha
      obtain ⟨r2, hr2, rfl⟩ := List.mem_map.mp hb
      first
        | (have := hcross r hr1 r2 hr2; omega)
        | (have := hd r hr1; have := hd r2 hr2; omega)
        | (have := hd r hr1; have := ht r2 hr2; omega)
        | (have := ht r hr1; have := ht r2 hr2; omega)
  · have e : (((rests.drop place).map (· + turns * T) ++ (rests.take place).map (· + (turns + 1) * T)).map (· % T)) = rests.drop place ++ rests.take place := by
      have key : ∀ (l : List Int) (k : Int), (∀ r ∈ l, 0 ≤ r ∧ r < T) → (l.map (· + k * T)).map (· % T) = l := fun l k h => by
        rw [List.map_map]
        conv => rhs; rw [← List.map_id l]
        refine List.map_congr_left fun r hr => ?_
        show (r + k * T) % T = r
        rw [Int.add_mul_emod_self_right, Int.emod_eq_of_lt (h r hr).1 (h r hr).2]
      rw [List.map_append, key _ _ hd, key _ _ ht]
    rw [e]
    refine List.perm_append_comm.trans ?_
    rw [List.take_append_drop]
    exact hr
  · have e3 : rests.sum = (rests.take place).sum + (rests.drop place).sum := by rw [← List.sum_append, List.take_append_drop]
    rw [List.sum_append, sum_addc, sum_addc, hsum, e3, List.length_drop, List.length_take, hlen, show min place s.length = place by omega, show ((s.length - place : Nat) : Int) = (s.length : Int) - place by omega]
    grind
/-- the end that a window tells -/
def endW (T : Int) (w : List Int) : List Int := diffs (w ++ [at_ w 0 + T])
theorem diffs_shift (l : List Int) (c : Int) : diffs (l.map (· + c)) = diffs l := by
  unfold diffs
  rw [← List.map_tail, List.zip_map, List.map_map]
  refine List.map_congr_left fun p _ => ?_
  show p.2 + c - (p.1 + c) = p.2 - p.1
  omega
theorem at_head {w : List Int} (h : w ≠ []) (c : Int) : at_ (w.map (· + c)) 0 = at_ w 0 + c := by
  cases w with
  | nil => exact absurd rfl h
  | cons a w => rfl
theorem end_shift (h : w ≠ []) (c : Int) : endW T (w.map (· + c)) = endW T w := by
  unfold endW
  rw [at_head h, ← diffs_shift (w ++ [at_ w 0 + T]) c, List.map_append, List.map_cons, List.map_nil, show at_ w 0 + c + T = at_ w 0 + T + c by omega]
theorem endW_len (T : Int) (w : List Int) : (endW T w).length = w.length := by
  unfold endW
  rw [diffs_len, List.length_append, List.length_singleton, Nat.add_sub_cancel]
theorem diffs_sum (b : Int) : ∀ (l : List Int), (diffs (l ++ [b])).sum = b - at_ (l ++ [b]) 0
  | [] => by
    show (0 : Int) = b - b
    omega
  | [a] => by
    show b - a + 0 = b - a
    omega
  | a :: c :: l => by
    have ih := diffs_sum b (c :: l)
    show (c - a) + (diffs (c :: l ++ [b])).sum = b - a
    rw [ih]
    show c - a + (b - c) = b - a
    omega
theorem end_sum (h : w ≠ []) : (endW T w).sum = T := by
  unfold endW
  rw [diffs_sum]
  cases w with
  | nil => exact absurd rfl h
  | cons a w =>
    show a + T - a = T
    omega
theorem diffs_nn : ∀ {l : List Int}, l.Pairwise (· ≤ ·) → ∀ z ∈ diffs l, 0 ≤ z
  | [], _, z, hz => by cases hz
  | [a], _, z, hz => by cases hz
  | a :: b :: l, h, z, hz => by
    obtain ⟨h1, h2⟩ := List.pairwise_cons.mp h
    rcases List.mem_cons.mp (show z ∈ (b - a) :: diffs (b :: l) from hz) with rfl | hz
    · have := h1 b List.mem_cons_self
      omega
    · exact diffs_nn h2 z hz
theorem end_nn (hw : Win T s w) (h : w ≠ []) : ∀ z ∈ endW T w, 0 ≤ z := diffs_nn (List.pairwise_append.mpr ⟨hw.srt, List.pairwise_singleton .., fun a ha b hb => by
  cases List.mem_singleton.mp hb
  refine hw.spr a ha _ ?_
  cases w with
  | nil => exact absurd rfl h
  | cons c w => exact List.mem_cons_self⟩)
end
section
variable {n : Nat} {x w : List Int} {v : Int}
def sN (n : Nat) (x : List Int) : List Int := (ndL n).map (qF x)
theorem sN_len : (sN n x).length = n := by
  unfold sN
  rw [List.length_map, ndL_len]
theorem swp_perm {p q : Int} (hp : 0 ≤ p ∧ p < n) (hq : 0 ≤ q ∧ q < n) : ((ndL n).map (swp p q)).Perm (ndL n) := by
  refine (List.perm_ext_iff_of_nodup ?_ (lt_nodup (ndL_lt n))).mpr fun v => ?_
  · unfold List.Nodup
    rw [List.pairwise_map]
    exact (lt_nodup (ndL_lt n)).imp fun {a b} h e => h (by rw [← swp_swp p q a, e, swp_swp])
  · rw [List.mem_map]
    constructor
    · rintro ⟨u, hu, rfl⟩
      exact mem_ndL.mpr (swp_rng hp hq (mem_ndL.mp hu))
    · intro hv
      exact ⟨swp p q v, mem_ndL.mpr (swp_rng hp hq (mem_ndL.mp hv)), swp_swp p q v⟩
theorem win_fire (hl : x.length = n) (h3 : 3 ≤ n) (hT : 0 < x.sum) (v0 : 0 ≤ v) (v1 : v < n) (hw : Win x.sum (sN n x) w) : ∃ c, Win x.sum (sN n (fireC n x v)) (w.map (· + c)) := by
  obtain ⟨p, q, c, e, hp, hq, hQ, he⟩ := fire_q hl h3 v0 v1
  refine ⟨c, List.pairwise_map.mpr (hw.srt.imp fun h => by omega), fun a ha b hb => ?_, ?_, ?_⟩
  · obtain ⟨a, ha2, rfl⟩ := List.mem_map.mp ha
    obtain ⟨b, hb2, rfl⟩ := List.mem_map.mp hb
    have := hw.spr a ha2 b hb2
    omega
  · have e1 : (w.map (· + c)).map (· % x.sum) = (w.map (· % x.sum)).map fun r => (r + c) % x.sum := by
      rw [List.map_map, List.map_map]
      refine List.map_congr_left fun z _ => ?_
      show (z + c) % x.sum = (z % x.sum + c) % x.sum
      rw [Int.emod_add_emod]
    rw [e1]
    refine (hw.res.map fun r => (r + c) % x.sum).trans ?_
    have e2 : ((sN n x).map (· % x.sum)).map (fun r => (r + c) % x.sum) = (ndL n).map fun i => (qF x i + c) % x.sum := by
      unfold sN
      rw [List.map_map, List.map_map]
      refine List.map_congr_left fun i _ => ?_
      show (qF x i % x.sum + c) % x.sum = _
      rw [Int.emod_add_emod]
    have e3 : (sN n (fireC n x v)).map (· % x.sum) = ((ndL n).map (swp p q)).map fun i => (qF x i + c) % x.sum := by
      unfold sN
      rw [List.map_map, List.map_map]
      refine List.map_congr_left fun i hi => ?_
      have hi := mem_ndL.mp hi
      show qF (fireC n x v) i % x.sum = (qF x (swp p q i) + c) % x.sum
      rw [hQ i hi.1 hi.2, show qF x (swp p q i) + x.sum * e i + c = qF x (swp p q i) + c + x.sum * e i by omega, Int.add_mul_emod_self_left]
    rw [e2, e3]
    exact ((swp_perm hp hq).map _).symm
  · rw [sum_addc, hw.sum, hw.len, sN_len]
    show sumN n (qF x) + n * c = sumN n (qF (fireC n x v))
    rw [sumN_congr hQ, sumN_add, sumN_add, sumN_swp hp hq (qF x), sumN_mull, he]
    have : sumN n (fun _ => c) = n * c := by
      unfold sumN ndL
      rw [List.map_map]
      clear hQ he
      have key : ∀ k : Nat, ((List.range k).map ((fun _ => c) ∘ fun i : Nat => (i : Int))).sum = k * c := fun k => by
        induction k with
        | zero => simp
        | succ k ih =>
          rw [List.range_succ, List.map_append, List.sum_append, ih, show ((k + 1 : Nat) : Int) = (k : Int) + 1 by omega, Int.add_mul]
          show _ + (c + 0) = _
          omega
      exact key n
    rw [this]
    omega
/-- the end stays when a node is fired -/
theorem end_fire (hl : x.length = n) (h3 : 3 ≤ n) (hT : 0 < x.sum) (v0 : 0 ≤ v) (v1 : v < n) {w' : List Int} (hw : Win x.sum (sN n x) w) (hw' : Win x.sum (sN n (fireC n x v)) w') : endW x.sum w' = endW x.sum w := by
  obtain ⟨c, h⟩ := win_fire hl h3 hT v0 v1 hw
  rw [win_uniq hT hw' h, end_shift fun z => by
    have := hw.len
    rw [z, sN_len] at this
    exact absurd this.symm (by simp; omega)]
theorem qF_mono (hl : x.length = n) (h : ∀ v : Int, 0 ≤ v → v < n → 0 ≤ at_ x v) : ∀ (k : Nat) (i : Int), 0 ≤ i → i + k ≤ n → qF x i ≤ qF x (i + k)
  | 0, i, _, _ => by
    rw [show i + ((0 : Nat) : Int) = i by omega]
    exact Int.le_refl _
  | k + 1, i, i0, i1 => by
    have ih := qF_mono hl h k i i0 (by omega)
    have q := qF_succ (x := x) (i := i + k) (by omega) (by omega)
    have := h (i + k) (by omega) (by omega)
    rw [show i + ((k + 1 : Nat) : Int) = i + k + 1 by omega, q]
    omega
theorem qF_le (hl : x.length = n) (h : ∀ v : Int, 0 ≤ v → v < n → 0 ≤ at_ x v) {i j : Int} (i0 : 0 ≤ i) (hij : i ≤ j) (j1 : j ≤ n) : qF x i ≤ qF x j := by
  have := qF_mono hl h (j - i).toNat i i0 (by omega)
  rwa [show i + ((j - i).toNat : Int) = j by omega] at this
theorem win_self (hl : x.length = n) (h : ∀ v : Int, 0 ≤ v → v < n → 0 ≤ at_ x v) : Win x.sum (sN n x) (sN n x) := by
  have hb : ∀ a ∈ sN n x, 0 ≤ a ∧ a ≤ x.sum := fun a ha => by
    obtain ⟨i, hi, rfl⟩ := List.mem_map.mp ha
    have hi := mem_ndL.mp hi
    have h1 := qF_le hl h (i := 0) (j := i) (by omega) hi.1 (by omega)
    have h2 := qF_le hl h (i := i) (j := n) hi.1 (by omega) (Int.le_refl _)
    rw [qF_zero] at h1
    have e := qF_last (x := x)
    rw [hl] at e
    omega
  refine ⟨?_, fun a ha b hb' => by have := hb a ha; have := hb b hb'; omega, .refl _, rfl⟩
  exact List.pairwise_map.mpr ((ndL_lt n).imp_of_mem fun {a b} ha hb' hab => qF_le hl h (mem_ndL.mp ha).1 (by omega) (by have := (mem_ndL.mp hb').2; omega))
theorem end_self (hl : x.length = n) (h1 : 1 ≤ n) : endW x.sum (sN n x) = x := by
  have e : sN n x ++ [at_ (sN n x) 0 + x.sum] = sumsF 0 x := by
    have e0 : at_ (sN n x) 0 = 0 := by
      unfold sN
      rw [at_nd2 (by omega) (by omega)]
      exact qF_zero
    refine List.ext_getElem? fun i => ?_
    by_cases c : i < n
    · rw [List.getElem?_append_left (by rw [sN_len]; exact c), sumsF_get x 0 i (by omega)]
      unfold sN
      rw [List.getElem?_map, ndL_get c]
      show some (qF x i) = _
      rw [qF_eq (by omega) (by omega), Int.zero_add]
      rfl
    · by_cases d : i = n
      · subst d
        rw [List.getElem?_append_right (by rw [sN_len]; exact Nat.le_refl _), sN_len, Nat.sub_self, e0, sumsF_get x 0 _ (by omega), ← hl, List.take_length]
        rfl
      · rw [List.getElem?_eq_none (by rw [List.length_append, sN_len, List.length_singleton]; omega), List.getElem?_eq_none (by rw [sumsF_len]; omega)]
  unfold endW
  rw [e, diffs_sums]
end

theorem atI_last {α : Type} {xs : List α} {a : α} (h : xs[xs.length - 1]? = some a) : atI xs (-1) = some a := by
  have hl : 0 < xs.length := by
    have := (List.getElem?_eq_some_iff.mp h).1
    omega
  unfold atI ixN
  rw [if_neg (by omega), if_pos (by omega), show (-1 + (xs.length : Int)).toNat = xs.length - 1 by omega]
  exact h
def oL (x : List Int) : O := .lst ((x.map D.int).map O.fz)
theorem oL_d (x : List Int) : (oL x).d = iL x := lst_fz _
open Classical in
noncomputable def csD (x : List Int) : D := if x.sum ≤ 0 then (if ∀ z ∈ x, z = 0 then .int 0 else .non) else .int (csF x)
def arcsT (x : List Int) (i : Nat) : List Int := (List.range i).flatMap fun s => (List.range (x.length - 1)).map fun m => arcN x s (m + 1)
theorem arcsT_succ (x : List Int) (i : Nat) : arcsT x (i + 1) = arcsT x i ++ (List.range (x.length - 1)).map fun m => arcN x i (m + 1) := by
  unfold arcsT
  rw [List.range_succ, List.flatMap_append, List.flatMap_cons, List.flatMap_nil, List.append_nil]
theorem arcsT_len (x : List Int) : ∀ i : Nat, (arcsT x i).length = i * (x.length - 1)
  | 0 => by simp [arcsT]
  | i + 1 => by rw [arcsT_succ, List.length_append, arcsT_len x i, List.length_map, List.length_range, Nat.add_mul, Nat.one_mul]
theorem arcs_bd {x : List Int} {i j : Nat} (hl : x.length ≤ 200) (hi : i < x.length) (hj : j < x.length) : (arcsT x i ++ (List.range j).map fun m => arcN x i (m + 1)).length < 1000000 := by
  rw [List.length_append, arcsT_len, List.length_map, List.length_range]
  have : i * (x.length - 1) ≤ 200 * 200 := Nat.mul_le_mul (by omega) (by omega)
  omega
theorem cs_filter (x : List Int) : (((arcsF x).filter fun a => decide (a < 0)).map fun a => (x.sum - 1 - a) / x.sum).sum = csF x := by
  unfold csF
  generalize arcsF x = l
  induction l with
  | nil => rfl
  | cons a l ih =>
    rw [List.map_cons, List.sum_cons, ← ih, List.filter_cons]
    unfold gT
    by_cases c : a < 0
    · rw [if_pos (decide_eq_true c), if_pos c, List.map_cons, List.sum_cons]
    · rw [if_neg (by rw [decide_eq_true_eq]; exact c), if_neg c, Int.zero_add]
theorem sN_take (x : List Int) : (sumsF 0 x).take x.length = sN x.length x := by
  refine List.ext_getElem? fun i => ?_
  unfold sN
  rw [List.getElem?_take, List.getElem?_map]
  by_cases c : i < x.length
  · rw [if_pos c, ndL_get c, sumsF_get x 0 i (by omega)]
    show _ = some (qF x i)
    rw [qF_eq (by omega) (by omega), Int.toNat_natCast, Int.zero_add]
  · rw [if_neg c, List.getElem?_eq_none (by rw [ndL_len]; omega)]
    rfl
theorem sum_abs {l : List Int} {B : Int} (h : ∀ z ∈ l, -B < z ∧ z < B) : -(l.length * B) ≤ l.sum ∧ l.sum ≤ l.length * B := by
  induction l with
  | nil => simp
  | cons a l ih =>
    rw [List.sum_cons, List.length_cons, show ((l.length + 1 : Nat) : Int) = (l.length : Int) + 1 by omega, Int.add_mul]
    have := ih fun z hz => h z (List.mem_cons_of_mem _ hz)
    have := h a List.mem_cons_self
    omega
theorem sN_bd {x : List Int} (hl : x.length ≤ 200) (hb : ∀ z ∈ x, -(10 ^ 150) < z ∧ z < 10 ^ 150) : ∀ y ∈ sN x.length x, -(10 ^ 153) < y ∧ y < 10 ^ 153 := fun y hy => by
  obtain ⟨i, hi, rfl⟩ := List.mem_map.mp hy
  have hi := mem_ndL.mp hi
  rw [qF_eq hi.1 (by omega)]
  have h1 := sum_abs (l := x.take i.toNat) (B := 10 ^ 150) fun z hz => hb z (List.mem_of_mem_take hz)
  have h2 : (((x.take i.toNat).length : Nat) : Int) * 10 ^ 150 ≤ 200 * 10 ^ 150 := Int.mul_le_mul_of_nonneg_right (by rw [List.length_take]; omega) (by decide)
  omega
theorem sh_bd {x t : List Int} (hl : x.length ≤ 200) (hb : ∀ z ∈ x, -(10 ^ 150) < z ∧ z < 10 ^ 150) (hT : 0 < x.sum) (hp : t.Perm ((sN x.length x).map (· % x.sum))) : -(10 ^ 160) ≤ ((sN x.length x).sum - t.sum) / x.sum ∧ ((sN x.length x).sum - t.sum) / x.sum < 10 ^ 160 := by
  have h1 := sum_abs (sN_bd hl hb)
  have h2 : (((sN x.length x).length : Nat) : Int) * 10 ^ 153 ≤ 200 * 10 ^ 153 := Int.mul_le_mul_of_nonneg_right (by rw [sN_len]; omega) (by decide)
  have h3 := sum_abs hb
  have h4 : ((x.length : Nat) : Int) * 10 ^ 150 ≤ 200 * 10 ^ 150 := Int.mul_le_mul_of_nonneg_right (by omega) (by decide)
  have h5 := sum_abs (l := t) (B := 10 ^ 153) fun z hz => by
    obtain ⟨y, _, rfl⟩ := List.mem_map.mp (hp.mem_iff.mp hz)
    have := Int.emod_nonneg y (show x.sum ≠ 0 by omega)
    have := Int.emod_lt_of_pos y hT
    omega
  have h6 : ((t.length : Nat) : Int) * 10 ^ 153 ≤ 200 * 10 ^ 153 := Int.mul_le_mul_of_nonneg_right (by rw [hp.length_eq, List.length_map, sN_len]; omega) (by decide)
  refine ⟨(Int.le_ediv_iff_mul_le hT).mpr ?_, Int.ediv_lt_of_lt_mul hT ?_⟩
  · have : (10 ^ 160 : Int) * 1 ≤ 10 ^ 160 * x.sum := Int.mul_le_mul_of_nonneg_left (by omega) (by decide)
    rw [Int.neg_mul]
    omega
  · have : (10 ^ 160 : Int) * 1 ≤ 10 ^ 160 * x.sum := Int.mul_le_mul_of_nonneg_left (by omega) (by decide)
    omega
theorem cut_toC {α : Type} (xs : List α) {z : Int} (h : 0 ≤ z) : cut xs none (some z) = xs.take z.toNat := by
  conv => lhs; rw [show z = ((z.toNat : Nat) : Int) by omega]
  exact cut_to xs _
theorem cut_fromC {α : Type} (xs : List α) {z : Int} (h : 0 ≤ z) : cut xs (some z) none = xs.drop z.toNat := by
  conv => lhs; rw [show z = ((z.toNat : Nat) : Int) by omega]
  exact cut_from xs _
def wpArcs : WPN := fun ds q _ => ∃ x : List Int, ds = [iL x] ∧ 3 ≤ x.length ∧ x.length ≤ 200 ∧ q ((arcsF x).map .int)
def wpCSteps (CP : Addr) : WP := fun ds q kx => ∃ d : D, ds = [d] ∧ d.kd ∧ d.kdL ∧ (d.isNum 3 = false → kx CP d) ∧ ∀ x : List Int, d = iL x → 3 ≤ x.length → x.length ≤ 200 → x.sum < 10 ^ 250 ∧ q (csD x)
def wpCEnd (CP : Addr) : WPX := fun ds q kx => ∃ d : D, ds = [d] ∧ d.kd ∧ d.kdL ∧ (d.isNum 3 = false → kx CP d) ∧ ∀ x : List Int, d = iL x → 3 ≤ x.length → x.length ≤ 200 → x.sum < 10 ^ 250 ∧ (x.sum ≤ 0 → (∀ z ∈ x, z = 0) → q (oL x)) ∧ (x.sum ≤ 0 → ¬ (∀ z ∈ x, z = 0) → q (.fz .non)) ∧ (0 < x.sum → (∀ z ∈ x, -(10 ^ 150) < z ∧ z < 10 ^ 150) ∧ ∀ w, Win x.sum (sN x.length x) w → q (oL (endW x.sum w)))

def wpErrR (C0 : Addr) : WPE := fun c k => ∀ (kq : D → Prop) (kx : Addr → D → Prop), (k .non → ∀ d, kq d) → (∀ C d, Shw d → d ≠ .any → (C = C0 ∧ k (.str d.py.shown)) → kx C d) → c kq kx

def wpDue20 : WP := fun ds q _ => ∃ x : List Int, ds = [iL x] ∧ x.length ≤ 200 ∧ ∀ t : List Int, t.Perm (sumsF 0 x) → t.Pairwise (· ≤ ·) → q (.lst [.int (inv (sumsF 0 x) : Nat), iL (diffs t)])
theorem sums_bd {B : Int} (hB : 0 < B) : ∀ (x : List Int) (a : Int), (∀ z ∈ x, -B < z ∧ z < B) → ∀ y ∈ sumsF a x, a - B * x.length ≤ y ∧ y ≤ a + B * x.length
  | [], a, _, y, hy => by
    cases List.mem_singleton.mp hy
    simp
  | z :: x, a, h, y, hy => by
    have hz := h z List.mem_cons_self
    rw [List.length_cons, show ((x.length + 1 : Nat) : Int) = (x.length : Int) + 1 by omega, Int.mul_add, Int.mul_one]
    have hp : 0 ≤ B * (x.length : Int) := Int.mul_nonneg (by omega) (by omega)
    rcases List.mem_cons.mp hy with rfl | hy
    · omega
    · have := sums_bd hB x (a + z) (fun w hw => h w (List.mem_cons_of_mem _ hw)) y hy
      omega
theorem diffs_mem {s : List Int} {z : Int} (h : z ∈ diffs s) : ∃ a ∈ s, ∃ b ∈ s, z = b - a := by
  unfold diffs at h
  obtain ⟨p, hp, rfl⟩ := List.mem_map.mp h
  obtain ⟨h1, h2⟩ := List.of_mem_zip (a := p.1) (b := p.2) hp
  exact ⟨p.1, h1, p.2, List.mem_of_mem_tail h2, rfl⟩
theorem shw_due {x t : List Int} {i : Nat} (hx : x.length ≤ 60) (hb : ∀ z ∈ x, -(10 ^ 39) < z ∧ z < 10 ^ 39) (hp : t.Perm (sumsF 0 x)) (hi : i ≤ 100000) : Shw (.lst [.int (i : Nat), iL (diffs t)]) := by
  refine (shw_lstB (n := 200000) (e := 1) (m := 2) (N := 500000) (fun d hd => ?_) (by simp) (by decide)).ok (by decide) (by decide)
  simp only [List.mem_cons, List.not_mem_nil, or_false] at hd
  rcases hd with rfl | rfl
  · exact (shw_int (by omega)).mono (by decide) (by decide)
  · refine shw_iL (m := 60) (fun z hz => ?_) (by rw [diffs_len, hp.length_eq, sumsF_len]; omega) (by decide)
    obtain ⟨a, ha, b, hb2, rfl⟩ := diffs_mem hz
    have h1 := sums_bd (B := 10 ^ 39) (by decide) x 0 hb a (hp.mem_iff.mp ha)
    have h2 := sums_bd (B := 10 ^ 39) (by decide) x 0 hb b (hp.mem_iff.mp hb2)
    have h3 : (10 ^ 39 : Int) * x.length ≤ 10 ^ 39 * 60 := Int.mul_le_mul_of_nonneg_left (by omega) (by decide)
    omega
structure BadQ (m : Nat) (d : D) : Prop where
  kd : d.kd
  kdL : d.kdL
  no : d.isNum m = false
  shw : Shw d
  any : d ≠ .any
theorem BadQ.not {m : Nat} {d : D} (h : BadQ m d) {x : List Int} {p : Prop} (e : d = iL x) (h1 : m ≤ x.length) (h2 : x.length ≤ 200) : p := by
  have := h.no
  rw [e, isNum_iL h1 h2] at this
  cases this
theorem badQ_lst {m : Nat} {x : List Int} {e : D} (hx : x.length ≤ 200) (hb : ∀ z ∈ x, -(10 ^ 250) < z ∧ z < 10 ^ 250) (hk : e.kd) (he : ShwN 1921 0 e) (hn : (D.lst (x.map .int ++ [e])).isNum m = false) : BadQ m (.lst (x.map .int ++ [e])) := by
  refine ⟨⟨_, rfl⟩, ⟨by rw [List.length_append, List.length_map, List.length_singleton]; omega, fun d hd => ?_⟩, hn, (shw_lstB (n := 1921) (e := 0) (m := 201) (N := 400000) (fun d hd => ?_) (by rw [List.length_append, List.length_map, List.length_singleton]; omega) (by decide)).ok (by decide) (by decide), fun z => by cases z⟩
  · rcases List.mem_append.mp hd with hd | hd
    · obtain ⟨i, _, rfl⟩ := List.mem_map.mp hd
      exact kd_int i
    · cases List.mem_singleton.mp hd
      exact hk
  · rcases List.mem_append.mp hd with hd | hd
    · obtain ⟨i, hi, rfl⟩ := List.mem_map.mp hd
      exact shw_int (hb i hi)
    · cases List.mem_singleton.mp hd
      exact he
theorem noI_num {m : Nat} {x : List Int} {e : D} (h : e.isI = false) : (D.lst (x.map .int ++ [e])).isNum m = false := by
  show (_ && (x.map D.int ++ [e]).all D.isI) = false
  rw [List.all_append]
  simp [h]
theorem long_num {m : Nat} {ts : List D} (h : 200 < ts.length) : (D.lst ts).isNum m = false := by
  show (_ && decide (ts.length ≤ 200) && _) = false
  rw [decide_eq_false (p := ts.length ≤ 200) (by omega), Bool.and_false, Bool.false_and]

theorem sum_leB {l : List Int} {B : Int} (h : ∀ z ∈ l, z < B) (hB : 0 ≤ B) : l.sum ≤ l.length * B := by
  induction l with
  | nil => simp
  | cons a l ih =>
    rw [List.sum_cons, List.length_cons, show ((l.length + 1 : Nat) : Int) = (l.length : Int) + 1 by omega, Int.add_mul]
    have := ih fun z hz => h z (List.mem_cons_of_mem _ hz)
    have := h a List.mem_cons_self
    omega
theorem sum_big {x : List Int} (hl : x.length ≤ 60) (hb : ∀ z ∈ x, -(10 ^ 41) < z ∧ z < 10 ^ 41) : x.sum < 10 ^ 250 := by
  have h1 := sum_leB (B := 10 ^ 41) (fun z hz => (hb z hz).2) (by decide)
  have h2 : (x.length : Int) * 10 ^ 41 ≤ 60 * 10 ^ 41 := Int.mul_le_mul_of_nonneg_right (by omega) (by decide)
  omega
theorem arc_bd {x : List Int} (hb : ∀ z ∈ x, -(10 ^ 41) < z ∧ z < 10 ^ 41) (h1 : 1 ≤ x.length) (s : Nat) : ∀ m : Nat, -(m * 10 ^ 41 : Int) ≤ arcN x s m
  | 0 => by
    show -((0 : Nat) * 10 ^ 41 : Int) ≤ 0
    simp
  | m + 1 => by
    have ih := arc_bd hb h1 s m
    have := hb _ (at_mem (x := x) (j := (((s + m) % x.length : Nat) : Int)) (by omega) (by have := Nat.mod_lt (s + m) (show 0 < x.length by omega); omega))
    show _ ≤ arcN x s m + _
    rw [show ((m + 1 : Nat) : Int) = (m : Int) + 1 by omega, Int.add_mul]
    omega
theorem gT_le {T d : Int} (hT : 0 < T) {B : Int} (hB : -B ≤ d) (hB0 : 0 ≤ B) : gT T d < B + 1 + T := by
  unfold gT
  split
  · have h1 := Int.ediv_lt_of_lt_mul hT (show T - 1 - d < (B + 1 + T) * T by
      have h2 : (B + 1) * 1 ≤ (B + 1) * T := Int.mul_le_mul_of_nonneg_left (by omega) (by omega)
      have h3 : T * 1 ≤ T * T := Int.mul_le_mul_of_nonneg_left (by omega) (by omega)
      rw [Int.add_mul]
      omega)
    exact h1
  · omega
theorem cs_bd {x : List Int} (hl : x.length ≤ 60) (hb : ∀ z ∈ x, -(10 ^ 41) < z ∧ z < 10 ^ 41) (hT : 0 < x.sum) : csF x < 10 ^ 60 := by
  have hx1 : 1 ≤ x.length := by
    cases x with
    | nil => simp at hT
    | cons a l => simp
  have h1 := sum_leB (l := (arcsF x).map (gT x.sum)) (B := 200 * 10 ^ 41) (fun z hz => by
    obtain ⟨d, hd, rfl⟩ := List.mem_map.mp hz
    obtain ⟨s, _, hd⟩ := List.mem_flatMap.mp hd
    obtain ⟨m, hm, rfl⟩ := List.mem_map.mp hd
    have hm := List.mem_range.mp hm
    have a := arc_bd hb hx1 s (m + 1)
    have h2 : ((m + 1 : Nat) : Int) * 10 ^ 41 ≤ 60 * 10 ^ 41 := Int.mul_le_mul_of_nonneg_right (by omega) (by decide)
    have h3 := sum_leB (B := 10 ^ 41) (fun z hz => (hb z hz).2) (by decide)
    have h4 : (x.length : Int) * 10 ^ 41 ≤ 60 * 10 ^ 41 := Int.mul_le_mul_of_nonneg_right (by omega) (by decide)
    have h5 := gT_le hT (B := 60 * 10 ^ 41) (d := arcN x s (m + 1)) (by omega) (by decide)
    omega) (by decide)
  have h2 : ((arcsF x).map (gT x.sum)).length ≤ 3600 := by
    rw [List.length_map, show arcsF x = arcsT x x.length from rfl, arcsT_len]
    have : x.length * (x.length - 1) ≤ 60 * 60 := Nat.mul_le_mul (by omega) (by omega)
    omega
  have h3 : ((((arcsF x).map (gT x.sum)).length : Nat) : Int) * (200 * 10 ^ 41) ≤ 3600 * (200 * 10 ^ 41) := Int.mul_le_mul_of_nonneg_right (by omega) (by decide)
  have h4 : csF x = ((arcsF x).map (gT x.sum)).sum := rfl
  rw [h4]
  omega
theorem rngC (n : Nat) : ((List.range (n : Int).toNat).map fun i : Nat => D.int (0 + i)) = (ndL n).map D.int := by
  unfold ndL
  rw [List.map_map, show (n : Int).toNat = n by omega]
  refine List.map_congr_left fun i _ => ?_
  show D.int (0 + (i : Int)) = D.int i
  rw [Int.zero_add]
theorem mem_atC {y : List Int} {z : Int} (h : z ∈ y) : ∃ v : Int, 0 ≤ v ∧ v < y.length ∧ at_ y v = z := by
  obtain ⟨i, hi⟩ := List.mem_iff_getElem?.mp h
  have hl := (List.getElem?_eq_some_iff.mp hi).1
  rw [at_get hl] at hi
  exact ⟨i, by omega, by omega, Option.some.inj hi⟩
theorem ent_bd {n : Nat} {y : List Int} (hyl : y.length = n) (h3 : 3 ≤ n) (hn : n ≤ 60) (hT : 0 < y.sum) (hTb : y.sum ≤ 60 * 10 ^ 41) (hc : csF y < 10 ^ 60) : ∀ z ∈ y, -(10 ^ 150) < z ∧ z < 10 ^ 150 := by
  have low : ∀ z ∈ y, -(10 ^ 103) < z := fun z hz => by
    obtain ⟨v, v0, v1, rfl⟩ := mem_atC hz
    by_cases c : at_ y v < 0
    · have h := arc_mem (x := y) (s := v.toNat) (m := 0) (by omega) (by omega)
      have e : arcN y v.toNat (0 + 1) = at_ y v := by
        show 0 + at_ y (((v.toNat + 0) % y.length : Nat) : Int) = _
        rw [Nat.add_zero, Nat.mod_eq_of_lt (by omega), show ((v.toNat : Nat) : Int) = v by omega, Int.zero_add]
      rw [e] at h
      have h2 : gT y.sum (at_ y v) ≤ csF y := sum_ge (l := (arcsF y).map (gT y.sum)) (fun z hz => by
        obtain ⟨d, _, rfl⟩ := List.mem_map.mp hz
        exact gT_nn hT d) (List.mem_map_of_mem h)
      unfold gT at h2
      rw [if_pos c] at h2
      have h3 : (y.sum - 1 - at_ y v) / y.sum < 10 ^ 60 := by omega
      have h4 := (Int.ediv_lt_iff_lt_mul hT).mp h3
      have h5 : (10 ^ 60 : Int) * y.sum ≤ 10 ^ 60 * (60 * 10 ^ 41) := Int.mul_le_mul_of_nonneg_left hTb (by decide)
      omega
    · omega
  have up : ∀ z ∈ y, z < 10 ^ 106 := fun z hz => by
    have h := sum_ge (l := y.map (· + 10 ^ 103)) (fun a ha => by
      obtain ⟨b, hb, rfl⟩ := List.mem_map.mp ha
      have := low b hb
      omega) (List.mem_map_of_mem (f := (· + 10 ^ 103)) hz)
    rw [sum_addc] at h
    have h5 : ((y.length : Nat) : Int) * 10 ^ 103 ≤ 60 * 10 ^ 103 := Int.mul_le_mul_of_nonneg_right (by omega) (by decide)
    omega
  exact fun z hz => by
    have := low z hz
    have := up z hz
    omega
def wpFiredC : WPN := fun ds q _ => ∃ (n : Nat) (x : List Int) (v : Int), ds = [iL x, .int v] ∧ x.length = n ∧ 3 ≤ n ∧ n ≤ 200 ∧ 0 ≤ v ∧ v < n ∧ q ((fireC n x v).map .int)
def wpCountC : WP := fun ds q _ => ∃ x : List Int, ds = [iL x] ∧ 3 ≤ x.length ∧ x.length ≤ 200 ∧ 0 < x.sum ∧ x.sum < 10 ^ 250 ∧ q (.int (csF x))
def wpRightC : WP := fun ds q _ => ∃ x : List Int, ds = [.pool, iL x] ∧ 3 ≤ x.length ∧ x.length ≤ 60 ∧ (∀ z ∈ x, -(10 ^ 41) < z ∧ z < 10 ^ 41) ∧ q (.bl true)
theorem mem_rep {k : Nat} {x d : D} (h : d ∈ (List.replicate k [x]).flatten) : d = x := by
  obtain ⟨l, hl, hd⟩ := List.mem_flatten.mp h
  rw [(List.mem_replicate.mp hl).2] at hd
  exact List.mem_singleton.mp hd
theorem len_rep {k : Nat} {x : D} : (List.replicate k [x]).flatten.length = k := by simp [List.length_flatten]
theorem rep_iL (n : Nat) (a : Int) : (List.replicate (n : Int).toNat [D.int a]).flatten = (List.replicate n a).map D.int := by
  rw [List.map_replicate, Int.toNat_natCast]
  exact List.eq_replicate_iff.mpr ⟨len_rep, fun d hd => mem_rep hd⟩
theorem sum_rep0 (n : Nat) : (List.replicate n (0 : Int)).sum = 0 := by
  induction n with
  | zero => rfl
  | succ n ih => rw [List.replicate_succ, List.sum_cons, ih]; rfl
theorem mod_ne {n : Nat} {v : Int} (h3 : 3 ≤ n) (v0 : 0 ≤ v) (v1 : v < n) : ¬ (v - 1) % (n : Int) = (v + 1) % n := by
  by_cases a : v = 0
  · subst a
    rw [show (0 : Int) - 1 = (n - 1) + n * (-1) by omega, Int.add_mul_emod_self_left, Int.emod_eq_of_lt (by omega) (by omega), Int.emod_eq_of_lt (by omega) (by omega)]
    omega
  · rw [Int.emod_eq_of_lt (show 0 ≤ v - 1 by omega) (by omega)]
    by_cases b : v + 1 = n
    · rw [b, Int.emod_self]
      omega
    · rw [Int.emod_eq_of_lt (by omega) (by omega)]
      omega
theorem fire_set {n : Nat} {x : List Int} {v : Int} (hl : x.length = n) (h3 : 3 ≤ n) (v0 : 0 ≤ v) (v1 : v < n) : ((x.set ((v - 1) % n).toNat (at_ x ((v - 1) % n) + at_ x v)).set ((v + 1) % n).toNat (at_ x ((v + 1) % n) + at_ x v)).set v.toNat (0 - at_ x v) = fireC n x v := by
  have a0 := Int.emod_nonneg (v - 1) (show (n : Int) ≠ 0 by omega)
  have a1 := Int.emod_lt_of_pos (v - 1) (show (0 : Int) < n by omega)
  have b0 := Int.emod_nonneg (v + 1) (show (n : Int) ≠ 0 by omega)
  have b1 := Int.emod_lt_of_pos (v + 1) (show (0 : Int) < n by omega)
  refine List.ext_getElem? fun i => ?_
  by_cases c : i < n
  · rw [at_get (by rw [List.length_set, List.length_set, List.length_set]; omega), at_get (by rw [fireC_len]; exact c), at_fireC (by omega) (by omega), at_set v0 (by rw [List.length_set, List.length_set]; omega) (by omega)]
    congr 1
    by_cases d : (i : Int) = v
    · rw [if_pos d, if_pos d]
    · rw [if_neg d, if_neg d, at_set b0 (by rw [List.length_set]; omega) (by omega)]
      by_cases e : (i : Int) = (v + 1) % n
      · rw [if_pos e, if_pos (.inr e), e]
      · rw [if_neg e, at_set a0 (by omega) (by omega)]
        by_cases f : (i : Int) = (v - 1) % n
        · rw [if_pos f, if_pos (.inl f), f]
        · rw [if_neg f, if_neg (fun z => z.elim f e)]
  · rw [List.getElem?_eq_none (by rw [List.length_set, List.length_set, List.length_set]; omega), List.getElem?_eq_none (by rw [fireC_len]; omega)]
def fT (x : List Int) (a b v : Int) : Nat → List Int
  | 0 => x
  | 1 => x.set a.toNat (at_ x a + at_ x v)
  | _ + 2 => (x.set a.toNat (at_ x a + at_ x v)).set b.toNat (at_ x b + at_ x v)
theorem short_num {m : Nat} {ts : List D} (h : ts.length < m) : (D.lst ts).isNum m = false := by
  show (decide (m ≤ ts.length) && decide (ts.length ≤ 200) && _) = false
  rw [decide_eq_false (by omega), Bool.false_and, Bool.false_and]
def longL : List Int := List.replicate 100 1 ++ List.replicate 99 (-1) ++ [5]
theorem long_len : longL.length = 200 := by decide +kernel
theorem long_sum : longL.sum = 6 := by decide +kernel
theorem long_bd : ∀ z ∈ longL, -10 < z ∧ z < 10 := by decide +kernel
theorem long_eq : ((List.replicate (100 : Int).toNat [D.int 1]).flatten ++ (List.replicate (99 : Int).toNat [D.int (-1)]).flatten ++ [D.int 5]) = longL.map D.int := by
  have h1 : (List.replicate (100 : Int).toNat [D.int 1]).flatten = (List.replicate 100 (1 : Int)).map D.int := rep_iL 100 1
  have h2 : (List.replicate (99 : Int).toNat [D.int (-1)]).flatten = (List.replicate 99 (-1 : Int)).map D.int := rep_iL 99 (-1)
  rw [h1, h2]
  unfold longL
  rw [List.map_append, List.map_append]
  rfl
def wpZerosC : WP := fun ds q _ => ∃ n : Nat, ds = [.int n] ∧ 3 ≤ n ∧ n ≤ 200 ∧ q (.bl true)
end
local macro_rules | `(tactic| walk_at "uq") => `(tactic| simp only [ums_cons, ums_nil, um_gr, um_ints, um_int])
section
variable {P : Program} {w : World} {K : PySem.W.Frag} {mg : Str → Option Value} {base : Heap} {ts : List (Addr × Str)} {C_GraphError C_InvalidPosition : Addr} [PC]
abbrev s_Lpool : Stmt := topS 14
theorem sc_Lpool : FnScope ["_law_script", "_law_k", "_law_cell", "_law_seed"] ["_law_script", "_law_k"] (defScope s_Lpool) := ⟨rfl, rfl, rfl, by decide +kernel, rfl, by decide +kernel, by decide +kernel⟩
theorem ok_Lpool {f : Addr} {fd : FuncData} (F : Fun K "_law_pool" "_law_pool" s_Lpool f fd) (z_len : mg "len" = none) : FnOk P w K mg base (L2.CX P w) 1 f fd ["_law_script", "_law_k"] (spN K wpPool) := by
  refine okN F sc_Lpool (by rintro _ _ _ ⟨_, _, rfl, _⟩; rfl) (fun cdv A outer s H E hr => ⟨_, (pss_cons (ps_set (i := 2) sc_Lpool.nd rfl (Or.inl rfl) pe_int)
  (pss_cons (ps_if (pt_cmpR op_lt (pv 1) (pe_callB (kz_len K) (by rfl) z_len (by decide +kernel) (pa_cons (pv 0) pa_nil)) (nomark _)) (pss_one (ps_set (i := 2) sc_Lpool.nd rfl (Or.inl rfl) (pe_ix (kix_list K) (pv 0) (pv 1) (fun _ _ => rfl)))) pss_nil)
  (pss_cons (ps_set (i := 3) sc_Lpool.nd rfl (Or.inl rfl) (pe_op op_mod (pe_op op_mul (pe_op op_add (pe_op op_add (pe_op op_mod (pv 2) pe_int) (pe_op op_mul (pe_op op_mul pe_int (pv 1)) (pv 1))) pe_int) pe_int) pe_int))
  (pss_cons (ps_if (pt_cmpR op_lt (pv 2) (pe_op op_pow pe_int pe_int) (nomark _)) (pss_one (ps_set (i := 2) sc_Lpool.nd rfl (Or.inl rfl) pe_int)) pss_nil)
  (pss_one (ps_ret (pe_lst (pa_cons (pv 2) (pa_cons (pe_op op_add (pe_op op_mod (pe_op op_mul (pv 3) (pv 3)) pe_int) pe_int) pa_nil))))))))), ?_⟩)
  try dsimp only [cxOf]
  intro ds q kx h
  obtain ⟨ns, n, rfl, hn, h⟩ := h
  walk_at "z"
  refine sc_cut (fun Δ => ∃ c : Int, Δ = [.dat (.scr ns), .dat (.int n), .dat (.int c), .un]) ?_ ?_
  · walk_at "z"
    refine ite_d (fun h0 => ?_) (fun h0 => ?_)
    · walk_at "z"
      exact ⟨_, _, rfl, atI_of (j := n.toNat) (by omega) (List.getElem?_eq_getElem (by omega)), ⟨_, rfl⟩⟩
    · walk_at "z"
      exact ⟨_, rfl⟩
  · rintro Δ ⟨c, rfl⟩
    walk_at "z"
    refine sc_cut (fun Δ => ∃ c e : Int, (0 ≤ e ∧ e < 2147483647) ∧ Δ = [.dat (.scr ns), .dat (.int n), .dat (.int c), .dat (.int e)]) ?_ ?_
    · walk_at "z"
      refine ite_d (fun h0 => ?_) (fun h0 => ?_)
      · walk_at "z"
        exact ⟨_, _, ⟨Int.emod_nonneg _ (by decide), Int.emod_lt_of_pos _ (by decide)⟩, rfl⟩
      · walk_at "z"
        exact ⟨_, _, ⟨Int.emod_nonneg _ (by decide), Int.emod_lt_of_pos _ (by decide)⟩, rfl⟩
    · rintro Δ ⟨c, e, he, rfl⟩
      walk_at "z"
      have h1 := Int.emod_nonneg (e * e) (show (2147483587 : Int) ≠ 0 by decide)
      have h2 := Int.emod_lt_of_pos (e * e) (show (0 : Int) < 2147483587 by decide)
      exact h _ _ (by omega) (by omega)
abbrev s_Ltake : Stmt := topS 15
theorem sc_Ltake : FnScope ["_law_pool_here", "_law_sides", "_law_found"] ["_law_pool_here", "_law_sides"] (defScope s_Ltake) := ⟨rfl, rfl, rfl, by decide +kernel, rfl, by decide +kernel, by decide +kernel⟩
theorem ok_Ltake {f : Addr} {fd : FuncData} (F : Fun K "_law_take" "_law_take" s_Ltake f fd)  : FnOk P w K mg base (L2.CX P w) 1 f fd ["_law_pool_here", "_law_sides"] (spD K wpTake) := by
  refine okD F sc_Ltake (by rintro _ _ _ ⟨_, rfl, _⟩; rfl) (fun cdv A outer s H E hr => ⟨_, (pss_cons (ps_if (pt_cmpR op_gt (pe_ix (kix_list K) (pv 0) pe_int (fun _ _ => rfl)) pe_int (nomark _)) (pss_cons (ps_set (i := 2) sc_Ltake.nd rfl (Or.inl rfl) (pe_op op_mod (pe_ix (kix_list K) (pv 0) pe_int (fun _ _ => rfl)) (pv 1)))
  (pss_cons (ps_asg (pe_op op_fdivW (pe_ix (kix_list K) (pv 0) pe_int (fun _ _ => rfl)) (pv 1)) (pg_sub (pv 0) pe_int set_list))
  (pss_one (ps_ret (pv 2))))) pss_nil)
  (pss_cons (ps_asg (pe_op op_mod (pe_op op_add (pe_op op_mul (pe_ix (kix_list K) (pv 0) pe_int (fun _ _ => rfl)) pe_int) pe_int) pe_int) (pg_sub (pv 0) pe_int set_list))
  (pss_one (ps_ret (pe_op op_mod (pe_op op_fdivW (pe_op op_mod (pe_op op_mul (pe_ix (kix_list K) (pv 0) pe_int (fun _ _ => rfl)) (pe_ix (kix_list K) (pv 0) pe_int (fun _ _ => rfl))) pe_int) pe_int) (pv 1)))))), ?_⟩)
  try dsimp only [cxOf]
  intro ds q kx h
  obtain ⟨n, rfl, hn, h⟩ := h
  walk_at "z"
  refine sc_seq ?_
  walk_at "z"
  refine ite_d (fun h0 => ?_) (fun h0 => ?_)
  · walk_at "z"
    exact h _ (Int.emod_nonneg _ (by omega)) (Int.emod_lt_of_pos _ hn.1)
  · walk_at "z"
    exact h _ (Int.emod_nonneg _ (by omega)) (Int.emod_lt_of_pos _ hn.1)
abbrev s_Lnumber : Stmt := topS 16
theorem sc_Lnumber : FnScope ["_law_pool_here", "_law_far"] ["_law_pool_here"] (defScope s_Lnumber) := ⟨rfl, rfl, rfl, by decide +kernel, rfl, by decide +kernel, by decide +kernel⟩
theorem ok_Lnumber {f : Addr} {fd : FuncData} (F : Fun K "_law_number" "_law_number" s_Lnumber f fd) (c_Ltake : Cal P w K mg base "_law_take" 1 ["_law_pool_here", "_law_sides"] (spD K wpTake)) : FnOk P w K mg base (L2.CX P w) 2 f fd ["_law_pool_here"] (spD K wpNumber) := by
  refine okD F sc_Lnumber (by rintro _ _ _ ⟨rfl, _⟩; rfl) (fun cdv A outer s H E hr => ⟨_, (pss_cons (ps_set (i := 1) sc_Lnumber.nd rfl (Or.inl rfl) (pe_op op_sub (pe_callC c_Ltake (hr.mono (by decide)) (by rfl) (pa_cons (pv 0) (pa_cons (pe_op op_pow pe_int pe_int) pa_nil))) (pe_op op_mul pe_int (pe_op op_pow pe_int pe_int))))
  (pss_one (ps_ret (pe_ix (kix_list K) (pe_lst (pa_cons (pe_op op_sub (pe_callC c_Ltake (hr.mono (by decide)) (by rfl) (pa_cons (pv 0) (pa_cons pe_int pa_nil))) pe_int) (pa_cons (pe_op op_sub (pe_callC c_Ltake (hr.mono (by decide)) (by rfl) (pa_cons (pv 0) (pa_cons pe_int pa_nil))) pe_int) (pa_cons pe_int (pa_cons (pv 1) (pa_cons (pe_op op_mul (pv 1) (pe_op op_pow pe_int pe_int)) pa_nil)))))) (pe_callC c_Ltake (hr.mono (by decide)) (by rfl) (pa_cons (pv 0) (pa_cons pe_int pa_nil))) (fun _ _ => rfl))))), ?_⟩)
  try dsimp only [cxOf]
  intro ds q kx h
  obtain ⟨rfl, h⟩ := h
  walk_at "z"
  refine pick_ix (by omega) (by simp only [List.length_cons, List.length_nil]; omega) fun d hd => ?_
  simp only [List.mem_cons, List.not_mem_nil, or_false] at hd
  rcases hd with rfl | rfl | rfl | rfl | rfl <;> exact h _ (by omega) (by omega)
abbrev s_Lnumbers : Stmt := topS 17
theorem sc_Lnumbers : FnScope ["_law_pool_here", "_law_many", "_law_node"] ["_law_pool_here", "_law_many"] (defScope s_Lnumbers) := ⟨rfl, rfl, rfl, by decide +kernel, rfl, by decide +kernel, by decide +kernel⟩
theorem ok_Lnumbers {f : Addr} {fd : FuncData} (F : Fun K "_law_numbers" "_law_numbers" s_Lnumbers f fd) (z_range : mg "range" = none) (c_Lnumber : Cal P w K mg base "_law_number" 2 ["_law_pool_here"] (spD K wpNumber)) : FnOk P w K mg base (L2.CX P w) 3 f fd ["_law_pool_here", "_law_many"] (spN K wpNumbers) := by
  refine okN F sc_Lnumbers (by rintro _ _ _ ⟨_, rfl, _⟩; rfl) (fun cdv A outer s H E hr => ⟨_, (pss_one (ps_ret (pe_lc (own := [("_law_node", 2)]) (by rfl) sc_Lnumbers.nd (pi_range1 (by rfl) z_range (pa_cons (pv 1) pa_nil)) (blkOk_by (N := ["_law_pool_here", "_law_many", "_law_node"]) (sc := defScope s_Lnumbers) (by decide +kernel)) (fun _ _ _ _ _ => (pg_name (i := 2) sc_Lnumbers.nd rfl (Or.inl rfl))) (fun _ _ _ _ _ => pts_nil) (fun _ _ _ _ _ => (pe_callC c_Lnumber (hr.mono (by decide)) (by rfl) (pa_cons (pv 0) pa_nil)))))), ?_⟩)
  try dsimp only [cxOf]
  intro ds q kx h
  obtain ⟨n, rfl, hn, h⟩ := h
  refine sc_retNew (en_lcR ?_)
  walk_at "z"
  refine ⟨fun d => ∃ z : Int, d = .int z ∧ -(10 ^ 39) < z ∧ z < 10 ^ 39, fun d hd => ?_, fun acc hl ha => ?_⟩
  · walk_at "z"
    exact ⟨rfl, fun z z0 z1 => ⟨z, rfl, z0, z1⟩⟩
  · obtain ⟨x, rfl, hx⟩ := ints_of ha
    simp only [List.length_map, List.length_range] at hl
    exact h x (by omega) hx
abbrev s_is_integer : Stmt := topS 4
theorem sc_is_integer : FnScope ["thing"] ["thing"] (defScope s_is_integer) := ⟨rfl, rfl, rfl, by decide +kernel, rfl, by decide +kernel, by decide +kernel⟩
theorem ok_is_integer {f : Addr} {fd : FuncData} (F : Fun K "is_integer" "is_integer" s_is_integer f fd) (z_bool : mg "bool" = none) (z_int : mg "int" = none) (z_isinstance : mg "isinstance" = none) : FnOk P w K mg base (L2.CX P w) 1 f fd ["thing"] (spD K wpIsInt) := by
  refine okD F sc_is_integer (by rintro _ _ _ ⟨_, rfl, _⟩; rfl) (fun cdv A outer s H E hr => ⟨_, (pss_one (ps_ret (pe_and (pe_callB (k_isi K) (by rfl) z_isinstance (by decide +kernel) (pa_cons (pv 0) (pa_cons (pe_bltn (v := .ty "int") (by rfl) z_int (by decide +kernel) rfl) pa_nil))) (pe_one (pe_not (pe_callB (k_isi K) (by rfl) z_isinstance (by decide +kernel) (pa_cons (pv 0) (pa_cons (pe_bltn (v := .ty "bool") (by rfl) z_bool (by decide +kernel) rfl) pa_nil)))))))), ?_⟩)
  try dsimp only [cxOf]
  intro ds q kx h
  obtain ⟨d, rfl, hd, h⟩ := h
  obtain ⟨t, b, c, h1, h2, h3, h4⟩ := kind_int hd
  walk_at "z"
  refine ⟨t, b, h1, h2, b, rfl, ?_⟩
  refine ite_of (fun hb => ?_) (fun hb => ?_)
  · walk_at "z"
    refine ⟨t, c, h1, h3, c, rfl, ?_⟩
    rw [hb, Bool.true_and] at h4
    rw [h4]
    exact h
  · rw [hb, Bool.false_and] at h4
    rw [h4]
    exact h
abbrev s_check_numbers : Stmt := topS 7
theorem sc_check_numbers : FnScope ["numbers", "least", "number"] ["numbers", "least"] (defScope s_check_numbers) := ⟨rfl, rfl, rfl, by decide +kernel, rfl, by decide +kernel, by decide +kernel⟩
theorem ok_check_numbers {f : Addr} {fd : FuncData} (F : Fun K "check_numbers" "check_numbers" s_check_numbers f fd) (z_all : mg "all" = none) (z_isinstance : mg "isinstance" = none) (z_len : mg "len" = none) (z_list : mg "list" = none) (g_MOST_NUMBERS : Gv mg "MOST_NUMBERS" (.int 200)) (c_is_integer : Cal P w K mg base "is_integer" 1 ["thing"] (spD K wpIsInt)) (x_InvalidPosition : ExcOk P w K mg base "InvalidPosition" C_InvalidPosition) : FnOk P w K mg base (L2.CX P w) 3 f fd ["numbers", "least"] (spD K (wpCheckNum C_InvalidPosition)) := by
  refine okD F sc_check_numbers (by rintro _ _ _ ⟨_, _, rfl, _⟩; rfl) (fun cdv A outer s H E hr => ⟨_, (pss_cons (ps_if (PW.pt (pw_or (pt_not (pt_val (pe_callB (k_isi K) (by rfl) z_isinstance (by decide +kernel) (pa_cons (pv 0) (pa_cons (pe_bltn (v := .ty "list") (by rfl) z_list (by decide +kernel) rfl) pa_nil))))) (pw_or1 (pt_not (pt_chain op_le op_le (pv 1) (pe_callB (kz_len K) (by rfl) z_len (by decide +kernel) (pa_cons (pv 0) pa_nil)) (pe_gC (by rfl) g_MOST_NUMBERS)))))) (pss_one (ps_raiseV x_InvalidPosition (by rfl) (takes_of rfl rfl rfl rfl) (hr.mono (by decide)) (by rfl) (pv 0))) pss_nil)
  (pss_one (ps_if (pt_not (pt_val (pe_callB (kr_all K) (by rfl) z_all (by decide +kernel) (pa_cons (pe_lc (own := [("number", 2)]) (by rfl) sc_check_numbers.nd (kpi_list K (pv 0)) (blkOk_by (N := ["numbers", "least", "number"]) (sc := defScope s_check_numbers) (by decide +kernel)) (fun _ _ _ _ _ => (pg_name (i := 2) sc_check_numbers.nd rfl (Or.inl rfl))) (fun _ _ _ _ _ => pts_nil) (fun _ _ _ _ _ => (pe_callC c_is_integer (hr.mono (by decide)) (by rfl) (pa_cons (pv 2) pa_nil)))) pa_nil)))) (pss_one (ps_raiseV x_InvalidPosition (by rfl) (takes_of rfl rfl rfl rfl) (hr.mono (by decide)) (by rfl) (pv 0))) pss_nil))), ?_⟩)
  try dsimp only [cxOf]
  intro ds q kx h
  obtain ⟨d, m, rfl, hk, hl, h1, h2⟩ := h
  obtain ⟨ty, b, t1, t2, t3⟩ := kind_list hk
  walk_at "z"
  refine ⟨ty, b, t1, t2, b, rfl, ?_⟩
  subst t3
  refine ite_of (fun hb => ?_) (fun hb => ?_)
  · have hb : d.isL = false := by simpa using hb
    walk_at "z"
    refine h2 ?_
    cases d <;> first | rfl | cases hb
  have hb : d.isL = true := by simpa using hb
  cases d <;> first | cases hb | skip
  rename_i ts
  obtain ⟨l1, l2⟩ := hl
  have e : (D.lst ts).isNum m = (decide (m ≤ ts.length) && decide (ts.length ≤ 200) && ts.all D.isI) := rfl
  walk_at "z"
  refine ite_d (fun g0 => ?_) (fun g0 => ?_)
  · walk_at "z"
    refine ite_nd (fun g1 => ?_) (fun g1 => ?_)
    · walk_at "z"
      refine h2 ?_
      rw [e, decide_eq_false (p := ts.length ≤ 200) (by omega), Bool.and_false, Bool.false_and]
    · walk_at "z"
      refine ⟨_, ts, id, fun z => .bl z.isI, (List.map_id _).symm, fun z hz => ?_, ?_⟩
      · walk_at "z"
        exact ⟨z, rfl, l2 z hz, rfl⟩
      refine ⟨ts.map D.isI, by rw [List.map_map]; rfl, ?_⟩
      have e2 : (ts.map D.isI).all id = ts.all D.isI := by rw [List.all_map]; rfl
      rw [e2]
      rw [decide_eq_true (by omega), decide_eq_true (by omega), Bool.true_and, Bool.true_and] at e
      refine ⟨_, rfl, ite_of (fun g2 => ?_) (fun g2 => ?_)⟩
      · walk_at "z"
        exact h2 (by rw [e]; simpa using g2)
      · walk_at "z"
        exact h1 (by rw [e]; simpa using g2)
  · walk_at "z"
    refine h2 ?_
    rw [e, decide_eq_false (by omega), Bool.false_and, Bool.false_and]
abbrev s_differences_of : Stmt := topS 9
theorem sc_differences_of : FnScope ["sums", "one", "two"] ["sums"] (defScope s_differences_of) := ⟨rfl, rfl, rfl, by decide +kernel, rfl, by decide +kernel, by decide +kernel⟩
theorem ok_differences_of {f : Addr} {fd : FuncData} (F : Fun K "differences_of" "differences_of" s_differences_of f fd) (z_zip : mg "zip" = none) : FnOk P w K mg base (L2.CX P w) 1 f fd ["sums"] (spN K wpDiffs) := by
  refine okN F sc_differences_of (by rintro _ _ _ ⟨_, rfl, _⟩; rfl) (fun cdv A outer s H E hr => ⟨_, (pss_one (ps_ret (pe_lc (own := [("one", 1), ("two", 2)]) (by rfl) sc_differences_of.nd (kpi_zip K (by rfl) z_zip (pa_cons (pv 0) (pa_cons (pe_slice (ksl_list K) (pv 0) (po_some pe_int) po_none) pa_nil))) (blkOk_by (N := ["sums", "one", "two"]) (sc := defScope s_differences_of) (by decide +kernel)) (fun _ _ _ _ _ => (kpg_tup (n := 2) K (by rfl) (pgs_cons (pg_name (i := 1) sc_differences_of.nd rfl (Or.inl rfl)) (pgs_cons (pg_name (i := 2) sc_differences_of.nd rfl (Or.inl rfl)) pgs_nil)))) (fun _ _ _ _ _ => pts_nil) (fun _ _ _ _ _ => (pe_op op_sub (pv 2) (pv 1)))))), ?_⟩)
  try dsimp only [cxOf]
  intro ds q kx h
  obtain ⟨s, rfl, hl, h⟩ := h
  walk_at "z"
  rw [show cut (s.map D.int) (some 1) none = s.tail.map D.int from by rw [show (some (1 : Int)) = some ((1 : Nat) : Int) from rfl, cut_from, ← List.map_drop, List.drop_one], zip_tup]
  refine ⟨_, s.zip s.tail, fun p => .tup [.int p.1, .int p.2], fun p => .int (p.2 - p.1), rfl, fun p hp => ?_, ?_⟩
  · walk_at "z"
  · unfold diffs at h
    rw [List.map_map] at h
    exact h
abbrev s_sums_of : Stmt := topS 8
theorem sc_sums_of : FnScope ["numbers", "found", "number"] ["numbers"] (defScope s_sums_of) := ⟨rfl, rfl, rfl, by decide +kernel, rfl, by decide +kernel, by decide +kernel⟩
theorem ok_sums_of {f : Addr} {fd : FuncData} (F : Fun K "sums_of" "sums_of" s_sums_of f fd)  : FnOk P w K mg base (L2.CX P w) 1 f fd ["numbers"] (spN K wpSums) := by
  refine okN F sc_sums_of (by rintro _ _ _ ⟨_, rfl, _⟩; rfl) (fun cdv A outer s H E hr => ⟨_, (pss_cons (ps_setO (i := 1) sc_sums_of.nd rfl (Or.inl rfl) (pe_lst (pa_cons pe_int pa_nil)))
  (pss_cons (ps_for (passes_of rfl) rfl (kpi_list K (pv 0)) (pg_name (i := 2) sc_sums_of.nd rfl (Or.inl rfl)) (pss_one (ps_expr (pe_bm PySem.F.plainAttrs_list PySem.F.slot_list_append PySem.F.type_list_append mt_append (pv 1) (pa_cons (pe_op op_add (pe_ix (kix_list K) (pv 1) (pe_un un_neg pe_int) (fun _ _ => rfl)) (pv 2)) pa_nil)))))
  (pss_one (ps_ret (pv 1))))), ?_⟩)
  try dsimp only [cxOf]
  intro ds q kx h
  obtain ⟨x, rfl, hl, h⟩ := h
  walk_at "z"
  refine sc_forL (i := 0) rfl (fun i Δ => ∃ y2, Δ = [.dat (iL x), .own ((sumsF 0 (x.take i)).map .int), y2]) ⟨_, rfl⟩ ?_ ?_
  · rintro i d Δ hd ⟨y2, rfl⟩
    obtain ⟨z, rfl, hz⟩ := get_ints hd
    have hlen : ((sumsF 0 (x.take i)).map D.int).length = (x.take i).length + 1 := by rw [List.length_map, sumsF_len]
    have htl : (x.take i).length ≤ 1000 := Nat.le_trans (List.length_take_le' ..) hl
    have hlen2 : ((sumsF 0 (x.take i)).map D.int).length < 1000000 := by omega
    walk_at "z"
    refine ⟨_, _, rfl, atI_last (a := D.int (0 + (x.take i).sum)) ?_, ?_⟩
    · rw [hlen, Nat.add_sub_cancel, List.getElem?_map, sumsF_last]
      rfl
    walk_at "z"
    refine ⟨.dat (.int z), ?_⟩
    rw [take_succ hz, sumsF_snoc, List.map_append]
    rfl
  · rintro Δ ⟨y2, rfl⟩
    rw [List.length_map, List.take_length]
    walk_at "z"
    exact h
abbrev s_cycle_end : Stmt := topS 12
theorem sc_cycle_end : FnScope ["numbers", "count", "total", "sums", "rests", "shift", "turns", "place", "window", "rest", "one"] ["numbers"] (defScope s_cycle_end) := ⟨rfl, rfl, rfl, by decide +kernel, rfl, by decide +kernel, by decide +kernel⟩
theorem ok_cycle_end {f : Addr} {fd : FuncData} (F : Fun K "cycle_end" "cycle_end" s_cycle_end f fd) (z_any : mg "any" = none) (z_len : mg "len" = none) (z_list : mg "list" = none) (z_sorted : mg "sorted" = none) (z_sum : mg "sum" = none) (c_check_numbers : Cal P w K mg base "check_numbers" 3 ["numbers", "least"] (spD K (wpCheckNum C_InvalidPosition))) (c_differences_of : Cal P w K mg base "differences_of" 1 ["sums"] (spN K wpDiffs)) (c_sums_of : Cal P w K mg base "sums_of" 1 ["numbers"] (spN K wpSums)) : FnOk P w K mg base (L2.CX P w) 4 f fd ["numbers"] (spX K (wpCEnd C_InvalidPosition)) := by
  refine okX F sc_cycle_end (by rintro _ _ _ ⟨_, rfl, _⟩; rfl) (fun cdv A outer s H E hr => ⟨_, (pss_cons (ps_expr (pe_callX (takes_of rfl rfl rfl rfl) c_check_numbers (hr.mono (by decide)) (by rfl) (pa_cons (pv 0) (pa_cons pe_int pa_nil))))
  (pss_cons (ps_asg (pe_tup (pa_cons (pe_callB (kz_len K) (by rfl) z_len (by decide +kernel) (pa_cons (pv 0) pa_nil)) (pa_cons (pe_callB (kr_sum K) (by rfl) z_sum (by decide +kernel) (pa_cons (pv 0) pa_nil)) pa_nil))) (kpg_tup (n := 2) K (by rfl) (pgs_cons (pg_name (i := 1) sc_cycle_end.nd rfl (Or.inl rfl)) (pgs_cons (pg_name (i := 2) sc_cycle_end.nd rfl (Or.inr rfl)) pgs_nil))))
  (pss_cons (ps_if (pt_cmpR op_le (pv 2) pe_int (nomark _)) (pss_one (ps_ret (pe_ifExp (pt_not (pt_val (pe_callB (kz_anyI K) (by rfl) z_any (by decide +kernel) (pa_cons (pv 0) pa_nil)))) (pe_callTy (kz_list K) (by rfl) z_list (by decide +kernel) (pa_cons (pv 0) pa_nil)) pe_non))) pss_nil)
  (pss_cons (ps_set (i := 3) sc_cycle_end.nd rfl (Or.inl rfl) (pe_slice (ksl_list K) (pe_callC c_sums_of (hr.mono (by decide)) (by rfl) (pa_cons (pv 0) pa_nil)) po_none (po_some (pv 1))))
  (pss_cons (ps_set (i := 4) sc_cycle_end.nd rfl (Or.inl rfl) (pe_callB (kr_sortedI K) (by rfl) z_sorted (by decide +kernel) (pa_cons (pe_lc (own := [("one", 10)]) (by rfl) sc_cycle_end.nd (kpi_list K (pv 3)) (blkOk_by (N := ["numbers", "count", "total", "sums", "rests", "shift", "turns", "place", "window", "rest", "one"]) (sc := defScope s_cycle_end) (by decide +kernel)) (fun _ _ _ _ _ => (pg_name (i := 10) sc_cycle_end.nd rfl (Or.inl rfl))) (fun _ _ _ _ _ => pts_nil) (fun _ _ _ _ _ => (pe_op op_mod (pv 10) (pv 2)))) pa_nil)))
  (pss_cons (ps_set (i := 5) sc_cycle_end.nd rfl (Or.inl rfl) (pe_op op_fdivW (pe_op op_sub (pe_callB (kr_sum K) (by rfl) z_sum (by decide +kernel) (pa_cons (pv 3) pa_nil)) (pe_callB (kr_sum K) (by rfl) z_sum (by decide +kernel) (pa_cons (pv 4) pa_nil))) (pv 2)))
  (pss_cons (ps_asg (pe_tup (pa_cons (pe_op op_fdivW (pv 5) (pv 1)) (pa_cons (pe_op op_mod (pv 5) (pv 1)) pa_nil))) (kpg_tup (n := 2) K (by rfl) (pgs_cons (pg_name (i := 6) sc_cycle_end.nd rfl (Or.inr rfl)) (pgs_cons (pg_name (i := 7) sc_cycle_end.nd rfl (Or.inl rfl)) pgs_nil))))
  (pss_cons (ps_setLc (i := 8) (own := [("rest", 9)]) (by rfl) sc_cycle_end.nd rfl rfl (sw_true rfl rfl rfl (by decide +kernel)) (kpi_list K (pe_slice (ksl_list K) (pv 4) po_none (po_some (pv 7)))) (blkOk_by (N := ["numbers", "count", "total", "sums", "rests", "shift", "turns", "place", "window", "rest", "one"]) (sc := defScope s_cycle_end) (by decide +kernel)) (fun _ _ _ _ _ => (pg_name (i := 9) sc_cycle_end.nd rfl (Or.inl rfl))) (fun _ _ _ _ _ => pts_nil) (fun _ _ _ _ _ => (pe_op op_add (pv 9) (pe_op op_mulW (pe_op op_add (pv 6) pe_int) (pv 2)))))
  (pss_cons (ps_set (i := 8) sc_cycle_end.nd rfl (Or.inl rfl) (pe_op op_cat (pe_lc (own := [("rest", 9)]) (by rfl) sc_cycle_end.nd (kpi_list K (pe_slice (ksl_list K) (pv 4) (po_some (pv 7)) po_none)) (blkOk_by (N := ["numbers", "count", "total", "sums", "rests", "shift", "turns", "place", "window", "rest", "one"]) (sc := defScope s_cycle_end) (by decide +kernel)) (fun _ _ _ _ _ => (pg_name (i := 9) sc_cycle_end.nd rfl (Or.inl rfl))) (fun _ _ _ _ _ => pts_nil) (fun _ _ _ _ _ => (pe_op op_add (pv 9) (pe_op op_mulW (pv 6) (pv 2))))) (pv 8)))
  (pss_one (ps_retX (ps_ret (pe_callC c_differences_of (hr.mono (by decide)) (by rfl) (pa_cons (pe_op op_cat (pv 8) (pe_lst (pa_cons (pe_op op_add (pe_ix (kix_list K) (pv 8) pe_int (fun _ _ => rfl)) (pv 2)) pa_nil))) pa_nil)))))))))))))), ?_⟩)
  try dsimp only [cxOf]
  intro ds q kx h
  obtain ⟨d, rfl, hk, hl, h1, h2⟩ := h
  walk_at "z"
  refine ⟨d, 3, rfl, hk, hl, fun hn => ?_, fun hn => h1 hn⟩
  obtain ⟨x, rfl, x1, x2⟩ := isNum_inv hn
  obtain ⟨hbig, k1, k2, k3⟩ := h2 x rfl x1 x2
  walk_at "z"
  refine ite_d (fun hle => ?_) (fun hgt => ?_)
  · refine sc_retX (ew_if ?_)
    walk_at "z"
    refine ite_of (fun hb => ?_) (fun hb => ?_)
    · have hz : ∀ z ∈ x, z = 0 := by simpa using hb
      refine ew_new _ (en_list ?_)
      walk_at "z"
      exact k1 hle hz
    · have hz : ¬ ∀ z ∈ x, z = 0 := by simpa using hb
      refine ew_dat _ ?_
      walk_at "z"
      exact k2 hle hz
  · have hT : 0 < x.sum := by omega
    walk_at "z"
    refine ⟨x, rfl, by omega, ?_⟩
    walk_at "z"
    rw [List.length_map, cut_to, ← List.map_take, sN_take]
    refine ⟨by rw [List.length_map, sN_len]; omega, _, sN x.length x, .int, fun z => .int (z % x.sum), rfl, fun z hz => ?_, ?_⟩
    · walk_at "z"
    walk_at "z"
    refine ⟨(sN x.length x).map (· % x.sum), by rw [List.map_map]; rfl, fun t hp hs => ?_⟩
    obtain ⟨hbx, k3⟩ := k3 hT
    have hshb := sh_bd x2 hbx hT hp
    have hTb : x.sum < 10 ^ 200 := by
      have h3 := sum_abs hbx
      have h4 : ((x.length : Nat) : Int) * 10 ^ 150 ≤ 200 * 10 ^ 150 := Int.mul_le_mul_of_nonneg_right (by omega) (by decide)
      omega
    have htl : t.length = x.length := by rw [hp.length_eq, List.length_map, sN_len]
    walk_at "z"
    have p0 := Int.emod_nonneg (((sN x.length x).sum - t.sum) / x.sum) (show (x.length : Int) ≠ 0 by omega)
    have p1 := Int.emod_lt_of_pos (((sN x.length x).sum - t.sum) / x.sum) (show (0 : Int) < x.length by omega)
    have hdiv := div_sum x.sum (sN x.length x)
    have hts := perm_sumL hp
    generalize hsh : ((sN x.length x).sum - t.sum) / x.sum = sh at p0 p1 hshb ⊢
    have htb : -(10 ^ 170) < sh / (x.length : Int) ∧ sh / (x.length : Int) < 10 ^ 170 := by
      have hn0 : (0 : Int) < x.length := by omega
      refine ⟨Int.lt_of_lt_of_le ?_ ((Int.le_ediv_iff_mul_le hn0).mpr (show -(10 ^ 161) * (x.length : Int) ≤ sh from ?_)), Int.ediv_lt_of_lt_mul hn0 ?_⟩
      · decide
      · have : (10 ^ 161 : Int) * 1 ≤ 10 ^ 161 * (x.length : Int) := Int.mul_le_mul_of_nonneg_left (by omega) (by decide)
        rw [Int.neg_mul]
        omega
      · have : (10 ^ 170 : Int) * 1 ≤ 10 ^ 170 * (x.length : Int) := Int.mul_le_mul_of_nonneg_left (by omega) (by decide)
        omega
    simp only [List.length_map]
    rw [cut_toC _ p0, ← List.map_take]
    refine ⟨by rw [List.length_map, List.length_take]; omega, _, t.take (sh % x.length).toNat, .int, fun r => .int (r + (sh / x.length + 1) * x.sum), rfl, fun r hr => ?_, ?_⟩
    · walk_at "z"
      refine rd_mulW (mulW_of ⟨by omega, by omega⟩ ⟨by omega, hTb⟩) ?_
      walk_at "z"
    walk_at "z"
    simp only [List.length_map]
    rw [cut_fromC _ p0, ← List.map_drop]
    refine ⟨by rw [List.length_map, List.length_drop]; omega, _, t.drop (sh % x.length).toNat, .int, fun r => .int (r + sh / x.length * x.sum), rfl, fun r hr => ?_, ?_⟩
    · walk_at "z"
      refine rd_mulW (mulW_of ⟨by omega, by omega⟩ ⟨by omega, hTb⟩) ?_
      walk_at "z"
    walk_at "z"
    refine ⟨by simp only [List.length_map, List.length_drop, List.length_take]; omega, ?_⟩
    obtain ⟨W, hW⟩ : ∃ W : List Int, W = (t.drop (sh % x.length).toNat).map (· + sh / x.length * x.sum) ++ (t.take (sh % x.length).toNat).map (· + (sh / x.length + 1) * x.sum) := ⟨_, rfl⟩
    have eW : (t.drop (sh % x.length).toNat).map (fun r => D.int (r + sh / x.length * x.sum)) ++ (t.take (sh % x.length).toNat).map (fun r => D.int (r + (sh / x.length + 1) * x.sum)) = W.map D.int := by
      rw [hW, List.map_append, List.map_map, List.map_map]
      rfl
    have hWin : Win x.sum (sN x.length x) W := by
      rw [hW]
      have hw := win_mk (s := sN x.length x) (T := x.sum) hT (rests := t) (place := (sh % x.length).toNat) (turns := sh / x.length) hp hs (by rw [sN_len]; omega) (by
        rw [sN_len, show (((sh % x.length).toNat : Nat) : Int) = sh % x.length by omega, Int.mul_comm (sh / x.length) x.length, Int.mul_ediv_add_emod, ← hsh, hts, hdiv, Int.mul_ediv_cancel_left _ (by omega)]
        omega)
      exact hw
    have hWl : W.length = x.length := by rw [hWin.len, sN_len]
    rw [eW]
    walk_at "z"
    refine ⟨0, .int (at_ W 0), rfl, atI_of (j := 0) rfl (by rw [List.getElem?_map, at_get (by omega)]; rfl), ?_⟩
    walk_at "z"
    refine ⟨W ++ [at_ W 0 + x.sum], by unfold iL; rw [List.map_append]; rfl, by rw [List.length_append, List.length_singleton]; omega, ?_⟩
    exact k3 W hWin
abbrev s_Lzeros : Stmt := topS 22
theorem sc_Lzeros : FnScope ["_law_many", "_law_row", "_law_found"] ["_law_many"] (defScope s_Lzeros) := ⟨rfl, rfl, rfl, by decide +kernel, rfl, by decide +kernel, by decide +kernel⟩
theorem ok_Lzeros {f : Addr} {fd : FuncData} (F : Fun K "_law_zeros" "_law_zeros" s_Lzeros f fd) (c_cycle_end : Cal P w K mg base "cycle_end" 4 ["numbers"] (spX K (wpCEnd C_InvalidPosition))) : FnOk P w K mg base (L2.CX P w) 5 f fd ["_law_many"] (spD K wpZerosC) := by
  refine okD F sc_Lzeros (by rintro _ _ _ ⟨_, rfl, _⟩; rfl) (fun cdv A outer s H E hr => ⟨_, (pss_cons (ps_set (i := 1) sc_Lzeros.nd rfl (Or.inl rfl) (pe_op op_rep (pe_lst (pa_cons pe_int pa_nil)) (pv 0)))
  (pss_cons (ps_setO (i := 2) sc_Lzeros.nd rfl (Or.inl rfl) (pe_callC c_cycle_end (hr.mono (by decide)) (by rfl) (pa_cons (pv 1) pa_nil)))
  (pss_cons (ps_if (pt_vwT 2 (pt_cmpR (kop_neD K hr.units) (pv 2) (pv 1) (nomark _))) (pss_one (ps_ret pe_bl)) pss_nil)
  (pss_cons (ps_expr (pe_bm PySem.F.plainAttrs_list PySem.F.slot_list_append PySem.F.type_list_append mt_append (pv 2) (pa_cons pe_int pa_nil)))
  (pss_one (ps_ret (pe_cmpR (kop_eqD K hr.units) (pv 1) (pe_op op_rep (pe_lst (pa_cons pe_int pa_nil)) (pv 0)) (nomark _)))))))), ?_⟩)
  try dsimp only [cxOf]
  intro ds q kx h
  obtain ⟨n, rfl, h3, hn, h⟩ := h
  walk_at "z"
  rw [rep_iL]
  have hsum := sum_rep0 n
  refine ⟨_, rfl, kd_iL _, kdL_iL (by rw [List.length_replicate]; omega), (fun hf => by rw [isNum_iL (by rw [List.length_replicate]; omega) (by rw [List.length_replicate]; omega)] at hf; cases hf), fun x' ex _ _ => ?_⟩
  cases iL_inj ex
  refine ⟨by rw [hsum]; decide, fun _ _ => ?_, fun _ hno => absurd (fun z hz => (List.mem_replicate.mp hz).2) hno, fun hp => absurd hp (by rw [hsum]; omega)⟩
  walk_at "z"
  refine et_vwN (i := 2) (ds := (List.replicate n 0).map .int) rfl (ums_ints _) ?_
  walk_at "z"
  rw [um_lst, ums_ints]
  refine rd_neL ?_
  walk_at "z"
  rw [rep_iL]
  refine rd_eqL ?_
  rw [decide_eq_true (rfl : List.replicate n (0 : Int) = List.replicate n 0)]
  exact h
abbrev s_arc_sums : Stmt := topS 10
theorem sc_arc_sums : FnScope ["numbers", "found", "start", "total", "place"] ["numbers"] (defScope s_arc_sums) := ⟨rfl, rfl, rfl, by decide +kernel, rfl, by decide +kernel, by decide +kernel⟩
theorem ok_arc_sums {f : Addr} {fd : FuncData} (F : Fun K "arc_sums" "arc_sums" s_arc_sums f fd) (z_len : mg "len" = none) (z_range : mg "range" = none) : FnOk P w K mg base (L2.CX P w) 1 f fd ["numbers"] (spN K wpArcs) := by
  refine okN F sc_arc_sums (by rintro _ _ _ ⟨_, rfl, _⟩; rfl) (fun cdv A outer s H E hr => ⟨_, (pss_cons (ps_setO (i := 1) sc_arc_sums.nd rfl (Or.inl rfl) (pe_lst pa_nil))
  (pss_cons (ps_for (passes_of rfl) rfl (pi_range1 (by rfl) z_range (pa_cons (pe_callB (kz_len K) (by rfl) z_len (by decide +kernel) (pa_cons (pv 0) pa_nil)) pa_nil)) (pg_name (i := 2) sc_arc_sums.nd rfl (Or.inl rfl)) (pss_cons (ps_set (i := 3) sc_arc_sums.nd rfl (Or.inl rfl) pe_int)
  (pss_one (ps_for (passes_of rfl) rfl (pi_range1 (by rfl) z_range (pa_cons (pe_op op_sub (pe_callB (kz_len K) (by rfl) z_len (by decide +kernel) (pa_cons (pv 0) pa_nil)) pe_int) pa_nil)) (pg_name (i := 4) sc_arc_sums.nd rfl (Or.inl rfl)) (pss_cons (ps_aug (i := 3) sc_arc_sums.nd rfl (Or.inl rfl) (pe_ix (kix_list K) (pv 0) (pe_op op_mod (pe_op op_add (pv 2) (pv 4)) (pe_callB (kz_len K) (by rfl) z_len (by decide +kernel) (pa_cons (pv 0) pa_nil))) (fun _ _ => rfl)) ip_add)
  (pss_one (ps_expr (pe_bm PySem.F.plainAttrs_list PySem.F.slot_list_append PySem.F.type_list_append mt_append (pv 1) (pa_cons (pv 3) pa_nil)))))))))
  (pss_one (ps_ret (pv 1))))), ?_⟩)
  try dsimp only [cxOf]
  intro ds q kx h
  obtain ⟨x, rfl, h3, hl, h⟩ := h
  have hxl : (x.map D.int).length = x.length := List.length_map ..
  walk_at "z"
  refine sc_for (ei_range1 ?_)
  walk_at "z"
  refine ⟨fun i Δ => ∃ y2 y3 y4, Δ = [.dat (iL x), .own ((arcsT x i).map .int), y2, y3, y4], ⟨_, _, _, rfl⟩, ?_, ?_⟩
  · rintro i d Δ hd ⟨y2, y3, y4, rfl⟩
    obtain ⟨hi, rfl⟩ := rng_get hd
    rw [hxl] at hi
    walk_at "z"
    refine sc_for (ei_range1 ?_)
    walk_at "z"
    refine ⟨fun j Δ => ∃ y4, Δ = [.dat (iL x), .own ((arcsT x i ++ (List.range j).map fun m => arcN x i (m + 1)).map .int), .dat (.int i), .dat (.int (arcN x i j)), y4], ⟨_, by rw [List.range_zero, List.map_nil, List.append_nil]; rfl⟩, ?_, ?_⟩
    · rintro j d Δ hd ⟨y4, rfl⟩
      obtain ⟨hj, rfl⟩ := rng_get hd
      rw [hxl] at hj
      have hj2 : j < ((x.length : Int) - 1).toNat := hj
      have hbd := arcs_bd (x := x) (i := i) (j := j) hl (by omega) (by omega)
      have hbd2 : ((arcsT x i ++ (List.range j).map fun m => arcN x i (m + 1)).map D.int).length < 1000000 := by rw [List.length_map]; exact hbd
      have hm := Nat.mod_lt (i + j) (show 0 < x.length by omega)
      walk_at "z"
      refine ⟨_, .int (at_ x (((i + j) % x.length : Nat) : Int)), rfl, atI_of (j := (i + j) % x.length) (by rw [hxl, Int.natCast_emod, Int.natCast_add]) (by rw [List.getElem?_map, at_get hm]; rfl), ?_⟩
      walk_at "z"
      refine ⟨.dat (.int j), ?_⟩
      simp only [List.range_succ, List.map_append, List.map_cons, List.map_nil, List.append_assoc] <;> rfl
    · rintro Δ ⟨y4, rfl⟩
      rw [List.length_map, List.length_range, hxl, show ((x.length : Int) - 1).toNat = x.length - 1 by omega, ← arcsT_succ]
      walk_at "z"
      exact ⟨_, _, _, rfl⟩
  · rintro Δ ⟨y2, y3, y4, rfl⟩
    rw [List.length_map, List.length_range, hxl, Int.toNat_natCast]
    walk_at "z"
    exact h
abbrev s_cycle_steps : Stmt := topS 11
theorem sc_cycle_steps : FnScope ["numbers", "total", "arc"] ["numbers"] (defScope s_cycle_steps) := ⟨rfl, rfl, rfl, by decide +kernel, rfl, by decide +kernel, by decide +kernel⟩
theorem ok_cycle_steps {f : Addr} {fd : FuncData} (F : Fun K "cycle_steps" "cycle_steps" s_cycle_steps f fd) (z_any : mg "any" = none) (z_sum : mg "sum" = none) (c_arc_sums : Cal P w K mg base "arc_sums" 1 ["numbers"] (spN K wpArcs)) (c_check_numbers : Cal P w K mg base "check_numbers" 3 ["numbers", "least"] (spD K (wpCheckNum C_InvalidPosition))) : FnOk P w K mg base (L2.CX P w) 4 f fd ["numbers"] (spD K (wpCSteps C_InvalidPosition)) := by
  refine okD F sc_cycle_steps (by rintro _ _ _ ⟨_, rfl, _⟩; rfl) (fun cdv A outer s H E hr => ⟨_, (pss_cons (ps_expr (pe_callX (takes_of rfl rfl rfl rfl) c_check_numbers (hr.mono (by decide)) (by rfl) (pa_cons (pv 0) (pa_cons pe_int pa_nil))))
  (pss_cons (ps_set (i := 1) sc_cycle_steps.nd rfl (Or.inr rfl) (pe_callB (kr_sum K) (by rfl) z_sum (by decide +kernel) (pa_cons (pv 0) pa_nil)))
  (pss_cons (ps_if (pt_cmpR op_le (pv 1) pe_int (nomark _)) (pss_one (ps_ret (pe_ifExp (pt_not (pt_val (pe_callB (kz_anyI K) (by rfl) z_any (by decide +kernel) (pa_cons (pv 0) pa_nil)))) pe_int pe_non))) pss_nil)
  (pss_one (ps_ret (pe_callB (kr_sum K) (by rfl) z_sum (by decide +kernel) (pa_cons (pe_lc (own := [("arc", 2)]) (by rfl) sc_cycle_steps.nd (kpi_list K (pe_callC c_arc_sums (hr.mono (by decide)) (by rfl) (pa_cons (pv 0) pa_nil))) (blkOk_by (N := ["numbers", "total", "arc"]) (sc := defScope s_cycle_steps) (by decide +kernel)) (fun _ _ _ _ _ => (pg_name (i := 2) sc_cycle_steps.nd rfl (Or.inl rfl))) (fun _ _ _ _ _ => (pts_one (pt_cmpR op_lt (pv 2) pe_int (nomark _)))) (fun _ _ _ _ _ => (pe_op op_fdivW (pe_op op_sub (pe_op op_sub (pv 1) pe_int) (pv 2)) (pv 1)))) pa_nil))))))), ?_⟩)
  try dsimp only [cxOf]
  intro ds q kx h
  obtain ⟨d, rfl, hk, hl, h1, h2⟩ := h
  walk_at "z"
  refine ⟨d, 3, rfl, hk, hl, fun hn => ?_, fun hn => h1 hn⟩
  obtain ⟨x, rfl, x1, x2⟩ := isNum_inv hn
  obtain ⟨hbig, h2⟩ := h2 x rfl x1 x2
  walk_at "z"
  refine ite_d (fun hle => ?_) (fun hgt => ?_)
  · walk_at "z"
    refine ite_of (fun hb => ?_) (fun hb => ?_)
    · have hz : ∀ z ∈ x, z = 0 := by simpa using hb
      have e : csD x = .int 0 := by
        unfold csD
        rw [if_pos hle, if_pos hz]
      rw [e] at h2
      walk_at "z"
      exact h2
    · have hz : ¬ ∀ z ∈ x, z = 0 := by simpa using hb
      have e : csD x = .non := by
        unfold csD
        rw [if_pos hle, if_neg hz]
      rw [e] at h2
      walk_at "z"
      exact h2
  · have hT : 0 < x.sum := by omega
    have e : csD x = .int (csF x) := by
      unfold csD
      rw [if_neg (by omega)]
    rw [e] at h2
    walk_at "z"
    refine ⟨x, rfl, x1, x2, ?_⟩
    have hbd : (arcsF x).length ≤ 100000 := by
      rw [show arcsF x = arcsT x x.length from rfl, arcsT_len]
      have : x.length * (x.length - 1) ≤ 200 * 200 := Nat.mul_le_mul (by omega) (by omega)
      omega
    walk_at "z"
    refine ⟨_, arcsF x, .int, fun a => decide (a < 0), fun a => .int ((x.sum - 1 - a) / x.sum), rfl, fun a ha => ?_, ?_⟩
    · walk_at "z"
      intro _
      walk_at "z"
    refine ⟨((arcsF x).filter fun a => decide (a < 0)).map fun a => (x.sum - 1 - a) / x.sum, by rw [List.map_map]; rfl, ?_⟩
    rw [cs_filter]
    exact h2
abbrev s_Lcount : Stmt := topS 20
theorem sc_Lcount : FnScope ["_law_row", "_law_total", "_law_many", "_law_count_here", "_law_start", "_law_arc", "_law_size"] ["_law_row"] (defScope s_Lcount) := ⟨rfl, rfl, rfl, by decide +kernel, rfl, by decide +kernel, by decide +kernel⟩
theorem ok_Lcount {f : Addr} {fd : FuncData} (F : Fun K "_law_count" "_law_count" s_Lcount f fd) (z_len : mg "len" = none) (z_range : mg "range" = none) (z_sum : mg "sum" = none) : FnOk P w K mg base (L2.CX P w) 1 f fd ["_law_row"] (spD K wpCountC) := by
  refine okD F sc_Lcount (by rintro _ _ _ ⟨_, rfl, _⟩; rfl) (fun cdv A outer s H E hr => ⟨_, (pss_cons (ps_par (i := 1) (j := 2) (by rfl) sc_Lcount.nd rfl rfl (by decide) rfl rfl (pa_cons (pe_callB (kr_sum K) (by rfl) z_sum (by decide +kernel) (pa_cons (pv 0) pa_nil)) (pa_cons (pe_callB (kz_len K) (by rfl) z_len (by decide +kernel) (pa_cons (pv 0) pa_nil)) pa_nil)) (by rfl))
  (pss_cons (ps_set (i := 3) sc_Lcount.nd rfl (Or.inl rfl) pe_int)
  (pss_cons (ps_for (passes_of rfl) rfl (pi_range1 (by rfl) z_range (pa_cons (pv 2) pa_nil)) (pg_name (i := 4) sc_Lcount.nd rfl (Or.inl rfl)) (pss_cons (ps_set (i := 5) sc_Lcount.nd rfl (Or.inl rfl) pe_int)
  (pss_one (ps_for (passes_of rfl) rfl (pi_range1 (by rfl) z_range (pa_cons (pe_op op_sub (pv 2) pe_int) pa_nil)) (pg_name (i := 6) sc_Lcount.nd rfl (Or.inl rfl)) (pss_cons (ps_set (i := 5) sc_Lcount.nd rfl (Or.inl rfl) (pe_op op_add (pv 5) (pe_ix (kix_list K) (pv 0) (pe_op op_mod (pe_op op_add (pv 4) (pv 6)) (pv 2)) (fun _ _ => rfl))))
  (pss_one (ps_if (pt_cmpR op_lt (pv 5) pe_int (nomark _)) (pss_one (ps_set (i := 3) sc_Lcount.nd rfl (Or.inl rfl) (pe_op op_add (pv 3) (pe_op op_fdivW (pe_op op_sub (pe_op op_add (pe_op op_sub pe_int (pv 5)) (pv 1)) pe_int) (pv 1))))) pss_nil)))))))
  (pss_one (ps_ret (pv 3)))))), ?_⟩)
  try dsimp only [cxOf]
  intro ds q kx h
  obtain ⟨x, rfl, h3, hl, hT, hbig, h⟩ := h
  have hxl : (x.map D.int).length = x.length := List.length_map ..
  walk_at "z"
  refine sc_for (ei_range1 ?_)
  walk_at "z"
  refine ⟨fun i Δ => ∃ y4 y5 y6, Δ = [.dat (iL x), .dat (.int x.sum), .dat (.int x.length), .dat (.int ((arcsT x i).map (gT x.sum)).sum), y4, y5, y6], ⟨_, _, _, by rw [hxl]; rfl⟩, ?_, ?_⟩
  · rintro i d Δ hd ⟨y4, y5, y6, rfl⟩
    obtain ⟨hi, rfl⟩ := rng_get hd
    walk_at "z"
    refine sc_for (ei_range1 ?_)
    walk_at "z"
    refine ⟨fun j Δ => ∃ y6, Δ = [.dat (iL x), .dat (.int x.sum), .dat (.int x.length), .dat (.int ((arcsT x i ++ (List.range j).map fun m => arcN x i (m + 1)).map (gT x.sum)).sum), .dat (.int i), .dat (.int (arcN x i j)), y6], ⟨_, by rw [List.range_zero, List.map_nil, List.append_nil]; rfl⟩, ?_, ?_⟩
    · rintro j d Δ hd ⟨y6, rfl⟩
      obtain ⟨hj, rfl⟩ := rng_get hd
      have hj2 : j < ((x.length : Int) - 1).toNat := hj
      have hm := Nat.mod_lt (i + j) (show 0 < x.length by omega)
      walk_at "z"
      refine ⟨_, .int (at_ x (((i + j) % x.length : Nat) : Int)), rfl, atI_of (j := (i + j) % x.length) (by rw [Int.natCast_emod, Int.natCast_add]) (by rw [List.getElem?_map, at_get hm]; rfl), ?_⟩
      walk_at "z"
      have es : ((arcsT x i ++ (List.range (j + 1)).map fun m => arcN x i (m + 1)).map (gT x.sum)).sum = ((arcsT x i ++ (List.range j).map fun m => arcN x i (m + 1)).map (gT x.sum)).sum + gT x.sum (arcN x i (j + 1)) := by
        simp only [List.range_succ, List.map_append, List.map_cons, List.map_nil, List.sum_append, List.sum_cons, List.sum_nil, Int.add_zero]
        omega
      refine ite_d (fun hlt => ?_) (fun hge => ?_)
      · walk_at "z"
        refine ⟨.dat (.int j), ?_⟩
        rw [es]
        unfold gT
        rw [if_pos (show arcN x i (j + 1) < 0 from hlt), show x.sum - 1 - arcN x i (j + 1) = 0 - arcN x i (j + 1) + x.sum - 1 by omega]
        rfl
      · walk_at "z"
        refine ⟨.dat (.int j), ?_⟩
        rw [es]
        unfold gT
        rw [if_neg (show ¬ arcN x i (j + 1) < 0 from hge), Int.add_zero]
        rfl
    · rintro Δ ⟨y6, rfl⟩
      rw [List.length_map, List.length_range, show ((x.length : Int) - 1).toNat = x.length - 1 by omega, ← arcsT_succ]
      walk_at "z"
      exact ⟨_, _, _, rfl⟩
  · rintro Δ ⟨y4, y5, y6, rfl⟩
    simp only [List.length_map, List.length_range, Int.toNat_natCast]
    walk_at "z"
    exact h
abbrev s_Lerror : Stmt := topS 18
theorem sc_Lerror : FnScope ["_law_door", "_law_kept", "e"] ["_law_door"] (defScope s_Lerror) := ⟨rfl, rfl, rfl, by decide +kernel, rfl, by decide +kernel, by decide +kernel⟩
theorem ok_Lerror {f : Addr} {fd : FuncData} (F : Fun K "_law_error" "_law_error" s_Lerror f fd) (z_repr : mg "repr" = none) (x_InvalidPosition : ExcOk P w K mg base "InvalidPosition" C_InvalidPosition) (e_InvalidPosition_InvalidPosition : PySem.W.exmOne K (.ref C_InvalidPosition) (.ref C_InvalidPosition) = some true) : FnL P w K mg base 1 f fd ["_law_door", "_law_kept", "e"] "_law_error" "_law_door" (defScope s_Lerror) (wpErrR C_InvalidPosition) := by
  refine okL F sc_Lerror (by decide) (fun cdv A outer s H hr hgd fl c' q tl act => ⟨_, (pss_cons (ps_set (i := 1) sc_Lerror.nd rfl (Or.inl rfl) pe_non)
  (pss_cons (ps_tryT (i := 2) rfl rfl sc_Lerror.nd rfl rfl takes0 (fun W pn xe tk po => (pss_one (ps_expr (pe_door act tk)))) (HdsA.cons (c := .ref C_InvalidPosition) ⟨by rfl, by decide, .inl x_InvalidPosition.hm⟩ (fun a oe cls d pn hz hf => by exact (pss_one (ps_set (i := 1) sc_Lerror.nd rfl (Or.inl rfl) (pe_callB (kz_repr K hgd (have hh := units65 hr; hh)) (by rfl) z_repr (by decide +kernel) (pa_cons (pe_xf x_InvalidPosition.xf (xnoV x_InvalidPosition) hz hf (pv 2)) pa_nil))))) HdsA.nil))
  (pss_one (ps_ret (pv 1))))), ?_⟩)
  try dsimp only [cxOf]
  intro c kk h
  walk_at "z"
  refine sc_tryT0 fun W => ?_
  refine sc_door rfl rfl (h _ _ (fun hk d => ?_) (fun C d hs ha hc => ?_))
  · walk_at "z"
    exact hk
  · obtain ⟨rfl, hk⟩ := hc
    refine ⟨true, e_InvalidPosition_InvalidPosition, ?_⟩
    rw [if_pos rfl]
    refine suite_ok ha fun a dd => ?_
    walk_at "z"
    exact hk
abbrev s_Lfired : Stmt := topS 19
theorem sc_Lfired : FnScope ["_law_row", "_law_node", "_law_many", "_law_found", "_law_other"] ["_law_row", "_law_node"] (defScope s_Lfired) := ⟨rfl, rfl, rfl, by decide +kernel, rfl, by decide +kernel, by decide +kernel⟩
theorem ok_Lfired {f : Addr} {fd : FuncData} (F : Fun K "_law_fired" "_law_fired" s_Lfired f fd) (z_len : mg "len" = none) (z_list : mg "list" = none) : FnOk P w K mg base (L2.CX P w) 1 f fd ["_law_row", "_law_node"] (spN K wpFiredC) := by
  refine okN F sc_Lfired (by rintro _ _ _ ⟨_, _, _, rfl, _⟩; rfl) (fun cdv A outer s H E hr => ⟨_, (pss_cons (ps_set (i := 2) sc_Lfired.nd rfl (Or.inl rfl) (pe_callB (kz_len K) (by rfl) z_len (by decide +kernel) (pa_cons (pv 0) pa_nil)))
  (pss_cons (ps_setO (i := 3) sc_Lfired.nd rfl (Or.inl rfl) (pe_callTy (kz_list K) (by rfl) z_list (by decide +kernel) (pa_cons (pv 0) pa_nil)))
  (pss_cons (ps_for (passes_of rfl) rfl (kpi_list K (pe_lst (pa_cons (pe_op op_mod (pe_op op_sub (pv 1) pe_int) (pv 2)) (pa_cons (pe_op op_mod (pe_op op_add (pv 1) pe_int) (pv 2)) pa_nil)))) (pg_name (i := 4) sc_Lfired.nd rfl (Or.inl rfl)) (pss_one (ps_asg (pe_op op_add (pe_ix (kix_list K) (pv 3) (pv 4) (fun _ _ => rfl)) (pe_ix (kix_list K) (pv 0) (pv 1) (fun _ _ => rfl))) (pg_sub (pv 3) (pv 4) set_list))))
  (pss_cons (ps_asg (pe_op op_sub pe_int (pe_ix (kix_list K) (pv 0) (pv 1) (fun _ _ => rfl))) (pg_sub (pv 3) (pv 1) set_list))
  (pss_one (ps_ret (pv 3))))))), ?_⟩)
  try dsimp only [cxOf]
  intro ds q kx h
  obtain ⟨n, x, v, rfl, hl, h3, h2, v0, v1, h⟩ := h
  have hxl : (x.map D.int).length = x.length := List.length_map ..
  walk_at "z"
  refine sc_for (ei_list ?_)
  walk_at "z"
  have a0 := Int.emod_nonneg (v - 1) (show (n : Int) ≠ 0 by omega)
  have a1 := Int.emod_lt_of_pos (v - 1) (show (0 : Int) < n by omega)
  have b0 := Int.emod_nonneg (v + 1) (show (n : Int) ≠ 0 by omega)
  have b1 := Int.emod_lt_of_pos (v + 1) (show (0 : Int) < n by omega)
  rw [hxl, hl]
  generalize ha : (v - 1) % (n : Int) = a at a0 a1 ⊢
  generalize hb : (v + 1) % (n : Int) = b at b0 b1 ⊢
  refine ⟨fun i Δ => ∃ y4, Δ = [.dat (iL x), .dat (.int v), .dat (.int n), .own ((fT x a b v i).map .int), y4], ⟨_, rfl⟩, ?_, ?_⟩
  · rintro i d Δ hd ⟨y4, rfl⟩
    match i, hd with
    | 0, hd =>
      cases hd
      walk_at "z"
      refine ⟨a, .int (at_ x a), rfl, atI_of (j := a.toNat) (by omega) (by show (x.map D.int)[a.toNat]? = _; rw [List.getElem?_map, at_get (by omega), show ((a.toNat : Nat) : Int) = a by omega]; rfl), ?_⟩
      walk_at "z"
      refine ⟨v, .int (at_ x v), rfl, atI_of (j := v.toNat) (by omega) (by rw [List.getElem?_map, at_get (by omega), show ((v.toNat : Nat) : Int) = v by omega]; rfl), ?_⟩
      walk_at "z"
      refine ⟨a, a.toNat, rfl, ixN_nat a0 (by rw [List.length_map]; show a < ((fT x a b v 0).length : Int); rw [show (fT x a b v 0).length = n from hl]; exact a1), ?_⟩
      refine ⟨.dat (.int a), ?_⟩
      rw [← List.map_set]
      rfl
    | 1, hd =>
      cases hd
      have hxs : (x.set a.toNat (at_ x a + at_ x v)).length = n := by rw [List.length_set]; exact hl
      have hne : a ≠ b := by
        rw [← ha, ← hb]
        exact fun z => absurd z (mod_ne h3 v0 v1)
      have eb : at_ (x.set a.toNat (at_ x a + at_ x v)) b = at_ x b := by rw [at_set a0 (by omega) b0, if_neg (fun z => hne z.symm)]
      walk_at "z"
      refine ⟨b, .int (at_ x b), rfl, atI_of (j := b.toNat) (by omega) (by show ((x.set a.toNat (at_ x a + at_ x v)).map D.int)[b.toNat]? = _; rw [List.getElem?_map, at_get (by omega), show ((b.toNat : Nat) : Int) = b by omega, eb]; rfl), ?_⟩
      walk_at "z"
      refine ⟨v, .int (at_ x v), rfl, atI_of (j := v.toNat) (by omega) (by rw [List.getElem?_map, at_get (by omega), show ((v.toNat : Nat) : Int) = v by omega]; rfl), ?_⟩
      walk_at "z"
      refine ⟨b, b.toNat, rfl, ixN_nat b0 (by rw [List.length_map]; show b < ((fT x a b v 1).length : Int); rw [show (fT x a b v 1).length = n from hxs]; exact b1), ?_⟩
      refine ⟨.dat (.int b), ?_⟩
      rw [← List.map_set]
      rfl
    | i + 2, hd => cases hd
  · rintro Δ ⟨y4, rfl⟩
    walk_at "z"
    refine ⟨v, .int (at_ x v), rfl, atI_of (j := v.toNat) (by omega) (by rw [List.getElem?_map, at_get (by omega), show ((v.toNat : Nat) : Int) = v by omega]; rfl), ?_⟩
    walk_at "z"
    refine ⟨v, v.toNat, rfl, ixN_nat v0 (by rw [List.length_map]; show v < ((fT x a b v 2).length : Int); rw [show (fT x a b v 2).length = n by (show ((x.set a.toNat (at_ x a + at_ x v)).set b.toNat (at_ x b + at_ x v)).length = n; rw [List.length_set, List.length_set]; exact hl)]; exact v1), ?_⟩
    walk_at "z"
    have e := fire_set hl h3 v0 v1
    rw [ha, hb] at e
    rw [← e, List.map_set] at h
    exact h
abbrev s_Lright : Stmt := topS 21
theorem sc_Lright : FnScope ["_law_pool_here", "_law_row", "_law_total", "_law_seen", "_law_due", "_law_count_here", "_law_end", "_law_turns", "_law_here", "_law_turn", "_law_low", "_law_node"] ["_law_pool_here", "_law_row"] (defScope s_Lright) := ⟨rfl, rfl, rfl, by decide +kernel, rfl, by decide +kernel, by decide +kernel⟩
theorem ok_Lright {f : Addr} {fd : FuncData} (F : Fun K "_law_right" "_law_right" s_Lright f fd) (z_len : mg "len" = none) (z_min : mg "min" = none) (z_range : mg "range" = none) (z_repr : mg "repr" = none) (z_sum : mg "sum" = none) (c_Lcount : Cal P w K mg base "_law_count" 1 ["_law_row"] (spD K wpCountC)) (c_Lfired : Cal P w K mg base "_law_fired" 1 ["_law_row", "_law_node"] (spN K wpFiredC)) (c_Ltake : Cal P w K mg base "_law_take" 1 ["_law_pool_here", "_law_sides"] (spD K wpTake)) (c_cycle_end : Cal P w K mg base "cycle_end" 4 ["numbers"] (spX K (wpCEnd C_InvalidPosition))) (c_cycle_steps : Cal P w K mg base "cycle_steps" 4 ["numbers"] (spD K (wpCSteps C_InvalidPosition))) : FnG P w K mg base 5 f fd ["_law_pool_here", "_law_row"] (spD K wpRightC) := by
  refine okDG F sc_Lright (by rintro _ _ _ ⟨_, rfl, _⟩; rfl) (fun cdv A outer s H E hr hgd => ⟨_, (pss_cons (ps_par (i := 2) (j := 3) (by rfl) sc_Lright.nd rfl rfl (by decide) rfl rfl (pa_cons (pe_callB (kr_sum K) (by rfl) z_sum (by decide +kernel) (pa_cons (pv 1) pa_nil)) (pa_cons (pe_callB (kz_repr K hgd (units65 hr)) (by rfl) z_repr (by decide +kernel) (pa_cons (pv 1) pa_nil)) pa_nil)) (by rfl))
  (pss_cons (ps_if (PW.pt (pw_or (pt_cmpR op_lt (pv 2) pe_int (nomark _)) (pw_or1 (pt_cmpR op_eq (pv 2) pe_int (nomark _))))) (pss_cons (ps_set (i := 4) sc_Lright.nd rfl (Or.inl rfl) (pe_ifExp (pt_cmpR (kop_eqD K hr.units) (pv 1) (pe_op op_rep (pe_lst (pa_cons pe_int pa_nil)) (pe_callB (kz_len K) (by rfl) z_len (by decide +kernel) (pa_cons (pv 1) pa_nil))) (nomark _)) (pe_lst (pa_cons pe_int (pa_cons (pv 1) pa_nil))) (pe_lst (pa_cons pe_non (pa_cons pe_non pa_nil)))))
  (pss_one (ps_ret (pe_cmpR op_eq (pe_callB (kz_repr K hgd (units65 hr)) (by rfl) z_repr (by decide +kernel) (pa_cons (pe_lst (pa_cons (pe_callC c_cycle_steps (hr.mono (by decide)) (by rfl) (pa_cons (pv 1) pa_nil)) (pa_cons (pe_callC c_cycle_end (hr.mono (by decide)) (by rfl) (pa_cons (pv 1) pa_nil)) pa_nil))) pa_nil)) (pe_callB (kz_repr K hgd (units65 hr)) (by rfl) z_repr (by decide +kernel) (pa_cons (pv 4) pa_nil)) (nomark _))))) pss_nil)
  (pss_cons (ps_par (i := 5) (j := 6) (by rfl) sc_Lright.nd rfl rfl (by decide) rfl rfl (pa_cons (pe_callC c_cycle_steps (hr.mono (by decide)) (by rfl) (pa_cons (pv 1) pa_nil)) (pa_cons (pe_callC c_cycle_end (hr.mono (by decide)) (by rfl) (pa_cons (pv 1) pa_nil)) pa_nil)) (by rfl))
  (pss_cons (ps_if (PW.pt (pw_or (pt_cmp (pc_isN (pv 5))) (pw_or1 (pt_cmp (pc_isN (pv 6)))))) (pss_one (ps_ret pe_bl)) pss_nil)
  (pss_cons (ps_if (PW.pt (pw_or (pt_cmpR op_ne (pe_callB (kz_repr K hgd (units65 hr)) (by rfl) z_repr (by decide +kernel) (pa_cons (pv 5) pa_nil)) (pe_callB (kz_repr K hgd (units65 hr)) (by rfl) z_repr (by decide +kernel) (pa_cons (pe_callC c_Lcount (hr.mono (by decide)) (by rfl) (pa_cons (pv 1) pa_nil)) pa_nil)) (nomark _)) (pw_or (pt_cmpR op_ne (pe_callB (kr_sum K) (by rfl) z_sum (by decide +kernel) (pa_cons (pv 6) pa_nil)) (pv 2) (nomark _)) (pw_or (pt_cmpR op_lt (pe_callB (kr_min K) (by rfl) z_min (by decide +kernel) (pa_cons (pv 6) pa_nil)) pe_int (nomark _)) (pw_or1 (pt_cmpR op_ne (pe_callB (kz_repr K hgd (units65 hr)) (by rfl) z_repr (by decide +kernel) (pa_cons (pv 1) pa_nil)) (pv 3) (nomark _))))))) (pss_one (ps_ret pe_bl)) pss_nil)
  (pss_cons (ps_asg (pe_tup (pa_cons (pe_callB (cz_min2 rfl) (by rfl) z_min (by decide +kernel) (pa_cons (pv 5) (pa_cons pe_int pa_nil))) (pa_cons (pv 1) pa_nil))) (kpg_tup (n := 2) K (by rfl) (pgs_cons (pg_name (i := 7) sc_Lright.nd rfl (Or.inl rfl)) (pgs_cons (pg_name (i := 8) sc_Lright.nd rfl (Or.inr rfl)) pgs_nil))))
  (pss_cons (ps_if (pt_cmpR op_le (pv 5) pe_int (nomark _)) (pss_one (ps_set (i := 7) sc_Lright.nd rfl (Or.inl rfl) (pv 5))) pss_nil)
  (pss_cons (ps_for (passes_of rfl) rfl (pi_range1 (by rfl) z_range (pa_cons (pv 7) pa_nil)) (pg_name (i := 9) sc_Lright.nd rfl (Or.inl rfl)) (pss_cons (ps_setLc (i := 10) (own := [("_law_node", 11)]) (by rfl) sc_Lright.nd rfl rfl (sw_true rfl rfl rfl (by decide +kernel)) (pi_range1 (by rfl) z_range (pa_cons (pe_callB (kz_len K) (by rfl) z_len (by decide +kernel) (pa_cons (pv 8) pa_nil)) pa_nil)) (blkOk_by (N := ["_law_pool_here", "_law_row", "_law_total", "_law_seen", "_law_due", "_law_count_here", "_law_end", "_law_turns", "_law_here", "_law_turn", "_law_low", "_law_node"]) (sc := defScope s_Lright) (by decide +kernel)) (fun _ _ _ _ _ => (pg_name (i := 11) sc_Lright.nd rfl (Or.inl rfl))) (fun _ _ _ _ _ => (pts_one (pt_cmpR op_lt (pe_ix (kix_list K) (pv 8) (pv 11) (fun _ _ => rfl)) pe_int (nomark _)))) (fun _ _ _ _ _ => (pv 11)))
  (pss_cons (ps_if (pt_cmpR (kop_eqD K hr.units) (pv 10) (pe_lst pa_nil) (nomark _)) (pss_one (ps_ret pe_bl)) pss_nil)
  (pss_cons (ps_set (i := 8) sc_Lright.nd rfl (Or.inr rfl) (pe_callC c_Lfired (hr.mono (by decide)) (by rfl) (pa_cons (pv 8) (pa_cons (pe_ix (kix_list K) (pv 10) (pe_callC c_Ltake (hr.mono (by decide)) (by rfl) (pa_cons (pv 0) (pa_cons (pe_callB (kz_len K) (by rfl) z_len (by decide +kernel) (pa_cons (pv 10) pa_nil)) pa_nil))) (fun _ _ => rfl)) pa_nil))))
  (pss_one (ps_if (PW.pt (pw_and (pt_cmpR op_lt (pv 9) pe_int (nomark _)) (pw_and1 (PW.pt (pw_or (pt_cmpR (kop_neD K hr.units) (pe_callC c_cycle_steps (hr.mono (by decide)) (by rfl) (pa_cons (pv 8) pa_nil)) (pe_op op_sub (pe_op op_sub (pv 5) (pv 9)) pe_int) (nomark _)) (pw_or1 (pt_cmpR (kop_neD K hr.units) (pe_callC c_cycle_end (hr.mono (by decide)) (by rfl) (pa_cons (pv 8) pa_nil)) (pv 6) (nomark _)))))))) (pss_one (ps_ret pe_bl)) pss_nil))))))
  (pss_one (ps_ret (pe_or (pe_cmpR op_lt (pv 7) (pv 5) (nomark _)) (pe_one (pe_cmpR (kop_eqD K hr.units) (pv 8) (pv 6) (nomark _)))))))))))))), ?_⟩)
  try dsimp only [cxOf]
  intro ds q kx h
  obtain ⟨x, rfl, h3, hl, hb, h⟩ := h
  have wx : ∀ z ∈ x, -(10 ^ 250) < z ∧ z < 10 ^ 250 := fun z hz => by
    have := hb z hz
    omega
  have shx : Shw (.lst (x.map .int)) := (shw_iL (m := 60) (N := 200000) wx (by omega) (by decide)).ok (by decide) (by decide)
  walk_at "z"
  have hxl : (x.map D.int).length = x.length := List.length_map ..
  have hbig : x.sum < 10 ^ 250 := sum_big hl hb
  have noN : ∀ {p : Prop}, (iL x).isNum 3 = false → p := fun hf => by
    rw [isNum_iL (by omega) (by omega)] at hf
    cases hf
  have hdt : ∀ s : Str, q (.bl (decide (s = s))) := fun s => by
    rw [decide_eq_true (rfl : s = s)]
    exact h
  dsimp only
  rcases (by omega : x.sum < 0 ∨ x.sum = 0 ∨ 0 < x.sum) with hs | hs | hs
  · refine sc_seq ?_
    walk_at "z"
    rw [hxl, rep_iL]
    have hne : x ≠ List.replicate x.length 0 := fun e => by
      have := sum_rep0 x.length
      rw [← e] at this
      omega
    have e : csD x = .non := by
      unfold csD
      rw [if_pos (by omega), if_neg (fun z => hne (List.eq_replicate_iff.mpr ⟨rfl, z⟩))]
    refine rd_eqL ?_
    rw [decide_eq_false hne]
    walk_at "z"
    refine ⟨_, rfl, kd_iL _, kdL_iL (by omega), noN, fun x' ex _ _ => ?_⟩
    cases iL_inj ex
    refine ⟨hbig, ?_⟩
    rw [e]
    walk_at "z"
    refine ⟨_, rfl, kd_iL _, kdL_iL (by omega), noN, fun x' ex _ _ => ?_⟩
    cases iL_inj ex
    refine ⟨hbig, fun _ z => absurd (List.eq_replicate_iff.mpr ⟨rfl, z⟩) hne, fun _ _ => ?_, fun z => absurd z (by omega)⟩
    walk_at "z"
    exact hdt _
  · by_cases hz : x = List.replicate x.length 0
    · have hz2 : ∀ z ∈ x, z = 0 := (List.eq_replicate_iff.mp hz).2
      have e : csD x = .int 0 := by
        unfold csD
        rw [if_pos (by omega), if_pos hz2]
      refine sc_seq ?_
      walk_at "z"
      rw [hxl, rep_iL]
      refine rd_eqL ?_
      rw [decide_eq_true hz]
      walk_at "z"
      refine ⟨_, rfl, kd_iL _, kdL_iL (by omega), noN, fun x' ex _ _ => ?_⟩
      cases iL_inj ex
      refine ⟨hbig, ?_⟩
      rw [e]
      walk_at "z"
      refine ⟨_, rfl, kd_iL _, kdL_iL (by omega), noN, fun x' ex _ _ => ?_⟩
      cases iL_inj ex
      refine ⟨hbig, fun _ _ => ?_, fun _ z => absurd hz2 z, fun z => absurd z (by omega)⟩
      have sh2 : Shw (.lst [.int 0, iL x]) := (shw_lstB (n := 200000) (e := 1) (m := 2) (N := 500000) (fun d hd => by
        simp only [List.mem_cons, List.not_mem_nil, or_false] at hd
        rcases hd with rfl | rfl
        · exact (shw_int (by omega)).mono (by decide) (by decide)
        · exact shw_iL (m := 60) wx (by omega) (by decide)) (by simp) (by decide)).ok (by decide) (by decide)
      dsimp only
      rw [oL_d]
      walk_at "z"
      exact hdt _
    · have e : csD x = .non := by
        unfold csD
        rw [if_pos (by omega), if_neg (fun z => hz (List.eq_replicate_iff.mpr ⟨rfl, z⟩))]
      refine sc_seq ?_
      walk_at "z"
      rw [hxl, rep_iL]
      refine rd_eqL ?_
      rw [decide_eq_false hz]
      walk_at "z"
      refine ⟨_, rfl, kd_iL _, kdL_iL (by omega), noN, fun x' ex _ _ => ?_⟩
      cases iL_inj ex
      refine ⟨hbig, ?_⟩
      rw [e]
      walk_at "z"
      refine ⟨_, rfl, kd_iL _, kdL_iL (by omega), noN, fun x' ex _ _ => ?_⟩
      cases iL_inj ex
      refine ⟨hbig, fun _ z => absurd (List.eq_replicate_iff.mpr ⟨rfl, z⟩) hz, fun _ _ => ?_, fun z => absurd z (by omega)⟩
      walk_at "z"
      exact hdt _
  · have e : csD x = .int (csF x) := by
      unfold csD
      rw [if_neg (by omega)]
    have hTb : x.sum ≤ 60 * 10 ^ 41 := by
      have h1 := sum_leB (B := 10 ^ 41) (fun z hz => (hb z hz).2) (by decide)
      have h2 : (x.length : Int) * 10 ^ 41 ≤ 60 * 10 ^ 41 := Int.mul_le_mul_of_nonneg_right (by omega) (by decide)
      omega
    have hcs := cs_bd hl hb hs
    have hcs0 := cs_nn hs
    have shc : Shw (.int (csF x)) := (shw_int (by omega)).ok (by decide) (by decide)
    refine sc_seq ?_
    walk_at "z"
    refine ⟨_, rfl, kd_iL _, kdL_iL (by omega), noN, fun x' ex _ _ => ?_⟩
    cases iL_inj ex
    refine ⟨hbig, ?_⟩
    rw [e]
    walk_at "z"
    refine ⟨_, rfl, kd_iL _, kdL_iL (by omega), noN, fun x' ex _ _ => ?_⟩
    cases iL_inj ex
    refine ⟨hbig, (fun z => absurd z (by omega)), (fun z => absurd z (by omega)), fun _ => ⟨fun z hz => by have := hb z hz; omega, fun w hw => ?_⟩⟩
    have hwn : w ≠ [] := fun z => by
      have := hw.len
      rw [z, sN_len, List.length_nil] at this
      omega
    have hes := end_sum (T := x.sum) hwn
    have hen := end_nn hw hwn
    have hel : (endW x.sum w).length = x.length := by rw [endW_len, hw.len, sN_len]
    dsimp only
    rw [oL_d]
    walk_at "z"
    refine ⟨x, rfl, h3, by omega, hs, hbig, ?_⟩
    walk_at "z"
    refine fun m hm _ => ?_
    have hm0 := hen m hm
    walk_at "z"
    dsimp only
    refine sc_cut (fun Δ => ∃ t : Nat, (t : Int) ≤ csF x ∧ t ≤ 400 ∧ Δ = [.dat .pool, .dat (iL x), .dat (.int x.sum), .dat (.str (D.lst (x.map .int)).py.shown), .un, .dat (.int (csF x)), .dat (iL (endW x.sum w)), .dat (.int t), .dat (iL x), .un, .un, .un]) ?_ ?_
    · walk_at "z"
      refine ite_d (fun h400 => ?_) (fun h400 => ?_)
      · walk_at "z"
        refine ⟨(csF x).toNat, by omega, by omega, ?_⟩
        rw [show (((csF x).toNat : Nat) : Int) = csF x by omega]
        rfl
      · walk_at "z"
        refine ⟨12, by omega, by omega, ?_⟩
        rw [if_pos (by omega)]
        rfl
    · rintro Δ ⟨t, ht, ht4, rfl⟩
      walk_at "z"
      refine sc_for (ei_range1 ?_)
      walk_at "z"
      refine ⟨fun i Δ => ∃ (y : List Int) (y9 y10 y11 : Sl), i ≤ t ∧ y.length = x.length ∧ y.sum = x.sum ∧ csF y = csF x - i ∧ (∃ w', Win x.sum (sN x.length y) w' ∧ endW x.sum w' = endW x.sum w) ∧ Δ = [.dat .pool, .dat (iL x), .dat (.int x.sum), .dat (.str (D.lst (x.map .int)).py.shown), .un, .dat (.int (csF x)), .dat (iL (endW x.sum w)), .dat (.int t), .dat (iL y), y9, y10, y11], ⟨x, .un, .un, .un, by omega, rfl, rfl, by omega, ⟨w, hw, rfl⟩, rfl⟩, ?_, ?_⟩
      · rintro i d Δ hd ⟨y, y9, y10, y11, hit, hyl, hys, hyc, ⟨w', hw', hwe⟩, rfl⟩
        obtain ⟨hi, rfl⟩ := rng_get hd
        have hi2 : i < t := by omega
        have hym : (y.map D.int).length = y.length := List.length_map ..
        have hneg : ∃ v : Int, 0 ≤ v ∧ v < x.length ∧ at_ y v < 0 := Classical.byContradiction fun hno => by
          have := cs_zero (x := y) (by omega) fun v v0 v1 => Classical.byContradiction fun hh => hno ⟨v, v0, by omega, by omega⟩
          omega
        walk_at "z"
        refine ⟨_, ndL x.length, .int, fun v => decide (at_ y v < 0), .int, by rw [hym, hyl]; exact rngC _, fun v hv => ?_, ?_⟩
        · have hv := mem_ndL.mp hv
          walk_at "z"
          refine ⟨v, .int (at_ y v), rfl, atI_of (j := v.toNat) (by omega) (by rw [List.getElem?_map, at_get (by omega), show ((v.toNat : Nat) : Int) = v by omega]; rfl), ?_⟩
          walk_at "z"
          intro _
          walk_at "z"
        have hLm : ∀ v ∈ (ndL x.length).filter (fun v => decide (at_ y v < 0)), (0 ≤ v ∧ v < x.length) ∧ at_ y v < 0 := fun v hv => ⟨mem_ndL.mp (List.mem_filter.mp hv).1, of_decide_eq_true (List.mem_filter.mp hv).2⟩
        have hLne : (ndL x.length).filter (fun v => decide (at_ y v < 0)) ≠ [] := fun z => by
          obtain ⟨v, v0, v1, hv⟩ := hneg
          have : v ∈ (ndL x.length).filter (fun v => decide (at_ y v < 0)) := List.mem_filter.mpr ⟨mem_ndL.mpr ⟨v0, v1⟩, decide_eq_true hv⟩
          rw [z] at this
          cases this
        have hLl : ((ndL x.length).filter (fun v => decide (at_ y v < 0))).length ≤ 60 := Nat.le_trans (List.length_filter_le ..) (by rw [ndL_len]; exact hl)
        generalize (ndL x.length).filter (fun v => decide (at_ y v < 0)) = L at hLm hLne hLl ⊢
        have hLp : 1 ≤ L.length := List.length_pos_iff.mpr hLne
        have hLm2 : (L.map D.int).length = L.length := List.length_map ..
        walk_at "z"
        refine rd_eqL (ms := []) ?_
        rw [decide_eq_false hLne]
        walk_at "z"
        rename_i r r0 r1
        obtain ⟨v, hv⟩ : ∃ v, L[r.toNat]? = some v := ⟨L[r.toNat]'(by omega), List.getElem?_eq_getElem (by omega)⟩
        obtain ⟨⟨v0, v1⟩, vn⟩ := hLm v (List.mem_of_getElem? hv)
        refine ⟨r, .int v, rfl, atI_of (j := r.toNat) (by omega) (by rw [List.getElem?_map, hv]; rfl), ?_⟩
        walk_at "z"
        refine ⟨x.length, y, v, rfl, hyl, h3, by omega, v0, v1, ?_⟩
        have hT2 : 0 < y.sum := by omega
        have zs : (fireC x.length y v).sum = x.sum := (fire_sum hyl h3 v0 v1).trans hys
        have zl := fireC_len x.length y v
        have zc : csF (fireC x.length y v) = csF x - i - 1 := by
          rw [cs_fire hyl h3 hT2 v0 v1 vn, hyc]
        obtain ⟨c, zw⟩ := win_fire hyl h3 hT2 v0 v1 (by rw [hys]; exact hw')
        rw [hys] at zw
        have zwe : endW x.sum (w'.map (· + c)) = endW x.sum w := by
          have := end_fire hyl h3 hT2 v0 v1 (by rw [hys]; exact hw') (by rw [hys]; exact zw)
          rw [hys] at this
          exact this.trans hwe
        generalize fireC x.length y v = z at zs zl zc zw ⊢
        have noN2 : ∀ {p : Prop}, (iL z).isNum 3 = false → p := fun hf => by
          rw [isNum_iL (by omega) (by omega)] at hf
          cases hf
        have ez : csD z = .int (csF z) := by
          unfold csD
          rw [if_neg (by omega)]
        walk_at "z"
        refine ite_d (fun h12 => ?_) (fun h12 => ?_)
        · walk_at "z"
          refine ⟨_, rfl, kd_iL _, kdL_iL (by omega), noN2, fun x' ex _ _ => ?_⟩
          cases iL_inj ex
          refine ⟨by omega, ?_⟩
          rw [ez, zc]
          walk_at "z"
          refine ⟨_, rfl, kd_iL _, kdL_iL (by omega), noN2, fun x' ex _ _ => ?_⟩
          cases iL_inj ex
          refine ⟨by omega, (fun z => absurd z (by omega)), (fun z => absurd z (by omega)), fun _ => ⟨ent_bd zl h3 hl (by omega) (by omega) (by omega), fun w2 hw2 => ?_⟩⟩
          rw [zs, zl] at hw2
          rw [zs, win_uniq hs hw2 zw, zwe]
          dsimp only
          rw [oL_d]
          walk_at "z"
          exact ⟨z, _, _, _, by omega, zl, zs, by omega, ⟨_, zw, zwe⟩, rfl⟩
        · walk_at "z"
          exact ⟨z, _, _, _, by omega, zl, zs, by omega, ⟨_, zw, zwe⟩, rfl⟩
      · rintro Δ ⟨y, y9, y10, y11, hit, hyl, hys, hyc, ⟨w', hw', hwe⟩, rfl⟩
        rw [List.length_map, List.length_range, Int.toNat_natCast] at hyc
        walk_at "z"
        refine ite_d (fun hlt => ?_) (fun hge => ?_)
        · exact h
        · have hz : ∀ v : Int, 0 ≤ v → v < x.length → 0 ≤ at_ y v := fun v v0 v1 => Classical.byContradiction fun hh => by
            have := cs_pos hyl h3 (by omega) v0 v1 (by omega)
            omega
          have hse := win_self hyl hz
          rw [hys] at hse
          have hee := end_self hyl (by omega)
          rw [hys, ← win_uniq hs hw' hse, hwe] at hee
          rw [hee]
          walk_at "z"
          rw [decide_eq_true (rfl : y = y)]
          exact h
abbrev s_law : Stmt := topS 23
theorem sc_law : FnScope ["_law_script", "_law_k", "_law_pool_here", "_law_many", "_law_row", "_law_small", "_law_rows", "_law_one", "_law_bad", "_law_long", "_law_node"] ["_law_script"] (defScope s_law) := ⟨rfl, rfl, rfl, by decide +kernel, rfl, by decide +kernel, by decide +kernel⟩
theorem ok_law {f : Addr} {fd : FuncData} (F : Fun K "law" "law" s_law f fd) (z_len : mg "len" = none) (z_max : mg "max" = none) (z_min : mg "min" = none) (z_range : mg "range" = none) (z_repr : mg "repr" = none) (z_sum : mg "sum" = none) (z_tuple : mg "tuple" = none) (c_Lcount : Cal P w K mg base "_law_count" 1 ["_law_row"] (spD K wpCountC)) (c_Lerror : CalL P w K mg base "_law_error" 1 (wpErrR C_InvalidPosition)) (c_Lnumbers : Cal P w K mg base "_law_numbers" 3 ["_law_pool_here", "_law_many"] (spN K wpNumbers)) (c_Lpool : Cal P w K mg base "_law_pool" 1 ["_law_script", "_law_k"] (spN K wpPool)) (c_Lright : CalG P w K mg base "_law_right" 5 ["_law_pool_here", "_law_row"] (spD K wpRightC)) (c_Ltake : Cal P w K mg base "_law_take" 1 ["_law_pool_here", "_law_sides"] (spD K wpTake)) (c_Lzeros : Cal P w K mg base "_law_zeros" 5 ["_law_many"] (spD K wpZerosC)) (c_cycle_end : Cal P w K mg base "cycle_end" 4 ["numbers"] (spX K (wpCEnd C_InvalidPosition))) (c_cycle_steps : Cal P w K mg base "cycle_steps" 4 ["numbers"] (spD K (wpCSteps C_InvalidPosition))) {c_law P_law : Addr} (tb_law : LamX.TabB base mg c_law P_law) (hc_law : ∀ cdv, CdOf K "law" "law" s_law f cdv → cdv = .ref c_law) (mt_law : (P_law, lamQ "law") ∈ ts) : FnG P w K mg base 8 f fd ["_law_script"] (spT K ts wpLaw) := by
  refine okDT F sc_law (by decide) (by rintro _ _ _ ⟨_, rfl, _⟩; rfl) (fun cdv A outer s H E hcv hr hgd => ⟨_, (pss_cons (ps_for (passes_of rfl) rfl (pi_range1 (by rfl) z_range (pa_cons (pe_callB (cz_max2 rfl) (by rfl) z_max (by decide +kernel) (pa_cons pe_int (pa_cons (pe_callB (cz_min2 rfl) (by rfl) z_min (by decide +kernel) (pa_cons (pe_callB (kz_len K) (by rfl) z_len (by decide +kernel) (pa_cons (pv 0) pa_nil)) (pa_cons pe_int pa_nil))) pa_nil))) pa_nil)) (pg_name (i := 1) sc_law.nd rfl (Or.inl rfl)) (pss_cons (ps_setO (i := 2) sc_law.nd rfl (Or.inr rfl) (pe_callC c_Lpool (hr.mono (by decide)) (by rfl) (pa_cons (pv 0) (pa_cons (pv 1) pa_nil))))
  (pss_cons (ps_set (i := 3) sc_law.nd rfl (Or.inl rfl) (pe_op op_add pe_int (pe_callC c_Ltake (hr.mono (by decide)) (by rfl) (pa_cons (pv 2) (pa_cons (pe_ix (kix_list K) (pe_lst (pa_cons pe_int (pa_cons pe_int pa_nil))) (pe_callC c_Ltake (hr.mono (by decide)) (by rfl) (pa_cons (pv 2) (pa_cons pe_int pa_nil))) (fun _ _ => rfl)) pa_nil)))))
  (pss_cons (ps_if (pt_not (pt_val (pe_callC c_Lzeros (hr.mono (by decide)) (by rfl) (pa_cons (pv 3) pa_nil)))) (pss_one (ps_ret pe_bl)) pss_nil)
  (pss_cons (ps_set (i := 4) sc_law.nd rfl (Or.inl rfl) (pe_callC c_Lnumbers (hr.mono (by decide)) (by rfl) (pa_cons (pv 2) (pa_cons (pv 3) pa_nil))))
  (pss_cons (ps_setLc (i := 5) (own := [("_law_node", 10)]) (by rfl) sc_law.nd rfl rfl (sw_true rfl rfl rfl (by decide +kernel)) (pi_range1 (by rfl) z_range (pa_cons (pv 3) pa_nil)) (blkOk_by (N := ["_law_script", "_law_k", "_law_pool_here", "_law_many", "_law_row", "_law_small", "_law_rows", "_law_one", "_law_bad", "_law_long", "_law_node"]) (sc := defScope s_law) (by decide +kernel)) (fun _ _ _ _ _ => (pg_name (i := 10) sc_law.nd rfl (Or.inl rfl))) (fun _ _ _ _ _ => pts_nil) (fun _ _ _ _ _ => (pe_op op_sub (pe_callC c_Ltake (hr.mono (by decide)) (by rfl) (pa_cons (pv 2) (pa_cons pe_int pa_nil))) pe_int)))
  (pss_cons (ps_setO (i := 6) sc_law.nd rfl (Or.inl rfl) (pe_lst (pa_cons (pv 4) (pa_cons (pv 5) (pa_cons (pe_op op_rep (pe_lst (pa_cons pe_int pa_nil)) (pv 3)) (pa_cons (pe_op op_cat (pe_slice (ksl_list K) (pv 4) po_none (po_some (pe_un un_neg pe_int))) (pe_lst (pa_cons (pe_op op_sub pe_int (pe_callB (kr_sum K) (by rfl) z_sum (by decide +kernel) (pa_cons (pe_slice (ksl_list K) (pv 4) po_none (po_some (pe_un un_neg pe_int))) pa_nil))) pa_nil))) (pa_cons (pe_op op_cat (pe_slice (ksl_list K) (pv 4) po_none (po_some (pe_un un_neg pe_int))) (pe_lst (pa_cons (pe_op op_sub pe_int (pe_callB (kr_sum K) (by rfl) z_sum (by decide +kernel) (pa_cons (pe_slice (ksl_list K) (pv 4) po_none (po_some (pe_un un_neg pe_int))) pa_nil))) pa_nil))) pa_nil)))))))
  (pss_cons (ps_expr (pe_bm PySem.F.plainAttrs_list PySem.F.slot_list_append PySem.F.type_list_append mt_append (pv 6) (pa_cons (pe_op op_cat (pe_slice (ksl_list K) (pv 5) po_none (po_some (pe_un un_neg pe_int))) (pe_lst (pa_cons (pe_op op_sub (pe_op op_add pe_int (pe_callC c_Ltake (hr.mono (by decide)) (by rfl) (pa_cons (pv 2) (pa_cons pe_int pa_nil)))) (pe_callB (kr_sum K) (by rfl) z_sum (by decide +kernel) (pa_cons (pe_slice (ksl_list K) (pv 5) po_none (po_some (pe_un un_neg pe_int))) pa_nil))) pa_nil))) pa_nil)))
  (pss_cons (ps_for (passes_of rfl) rfl (kpi_list K (pv 6)) (pg_name (i := 7) sc_law.nd rfl (Or.inl rfl)) (pss_one (ps_if (pt_not (pt_val (pe_callG c_Lright hgd (hr.mono (by decide)) (by rfl) (pa_cons (pv 2) (pa_cons (pv 7) pa_nil))))) (pss_one (ps_ret pe_bl)) pss_nil)))
  (pss_one (ps_for (passes_of rfl) rfl (kpi_list K (pe_lst (pa_cons pe_non (pa_cons (pe_lst pa_nil) (pa_cons (pe_slice (ksl_list K) (pv 4) po_none (po_some pe_int)) (pa_cons (pe_callTy (kz_tup K) (by rfl) z_tuple (by decide +kernel) (pa_cons (pv 4) pa_nil)) (pa_cons pe_dnewK (pa_cons (pe_op op_cat (pv 4) (pe_lst (pa_cons pe_bl pa_nil))) (pa_cons (pe_op op_cat (pv 4) (pe_lst (pa_cons pe_str pa_nil))) (pa_cons pe_str pa_nil)))))))))) (pg_name (i := 8) sc_law.nd rfl (Or.inr rfl)) (pss_cons (ps_if (pt_cmpR op_ne (pe_lam (m := 4) (q := lamQ "law") c_Lerror (by rfl) hgd (hr.mono (by decide)) (hr.mono (by decide)) tb_law (hc_law cdv hcv) rfl (LamX.lamS_by (sc := defScope s_law) (by decide +kernel)) (by rfl) (fun _ _ _ _ _ => rfl) (fun A outer s H E f c' hr => (pe_callX (takes_of rfl rfl rfl rfl) c_cycle_steps (hr.mono (by decide)) (by rfl) (pa_cons (pv 8) pa_nil)))) (pe_callB (kz_repr K hgd (units65 hr)) (by rfl) z_repr (by decide +kernel) (pa_cons (pv 8) pa_nil)) (nomark _)) (pss_one (ps_ret pe_bl)) pss_nil)
  (pss_one (ps_if (pt_cmpR op_ne (pe_lam (m := 4) (q := lamQ "law") c_Lerror (by rfl) hgd (hr.mono (by decide)) (hr.mono (by decide)) tb_law (hc_law cdv hcv) rfl (LamX.lamS_by (sc := defScope s_law) (by decide +kernel)) (by rfl) (fun _ _ _ _ _ => rfl) (fun A outer s H E f c' hr => (pe_callX (takes_of rfl rfl rfl rfl) c_cycle_end (hr.mono (by decide)) (by rfl) (pa_cons (pv 8) pa_nil)))) (pe_callB (kz_repr K hgd (units65 hr)) (by rfl) z_repr (by decide +kernel) (pa_cons (pv 8) pa_nil)) (nomark _)) (pss_one (ps_ret pe_bl)) pss_nil))))))))))))))
  (pss_cons (ps_set (i := 9) sc_law.nd rfl (Or.inr rfl) (pe_op op_cat (pe_op op_cat (pe_op op_rep (pe_lst (pa_cons pe_int pa_nil)) pe_int) (pe_op op_rep (pe_lst (pa_cons (pe_un un_neg pe_int) pa_nil)) pe_int)) (pe_lst (pa_cons pe_int pa_nil))))
  (pss_cons (ps_if (PW.pt (pw_or (pt_cmpR (kop_neD K hr.units) (pe_callC c_cycle_steps (hr.mono (by decide)) (by rfl) (pa_cons (pv 9) pa_nil)) (pe_callC c_Lcount (hr.mono (by decide)) (by rfl) (pa_cons (pv 9) pa_nil)) (nomark _)) (pw_or1 (pt_cmpR op_ne (pe_lam (m := 4) (q := lamQ "law") c_Lerror (by rfl) hgd (hr.mono (by decide)) (hr.mono (by decide)) tb_law (hc_law cdv hcv) rfl (LamX.lamS_by (sc := defScope s_law) (by decide +kernel)) (by rfl) (fun _ _ _ _ _ => rfl) (fun A outer s H E f c' hr => (pe_callX (takes_of rfl rfl rfl rfl) c_cycle_steps (hr.mono (by decide)) (by rfl) (pa_cons (pe_op op_cat (pv 9) (pe_lst (pa_cons pe_int pa_nil))) pa_nil)))) (pe_callB (kz_repr K hgd (units65 hr)) (by rfl) z_repr (by decide +kernel) (pa_cons (pe_op op_cat (pv 9) (pe_lst (pa_cons pe_int pa_nil))) pa_nil)) (nomark _))))) (pss_one (ps_ret pe_bl)) pss_nil)
  (pss_one (ps_ret (pe_and (pe_cmpR op_eq (pe_callB (kr_sum K) (by rfl) z_sum (by decide +kernel) (pa_cons (pe_callC c_cycle_end (hr.mono (by decide)) (by rfl) (pa_cons (pv 9) pa_nil)) pa_nil)) pe_int (nomark _)) (pe_one (pe_cmpR op_ge (pe_callB (kr_min K) (by rfl) z_min (by decide +kernel) (pa_cons (pe_callC c_cycle_end (hr.mono (by decide)) (by rfl) (pa_cons (pv 9) pa_nil)) pa_nil)) pe_int (nomark _))))))))), ?_⟩)
  try dsimp only [cxOf]
  intro ds q kx h
  obtain ⟨ns, rfl, hl, h⟩ := h
  walk_at "z"
  refine sc_forR (n := if (if (5 : Int) < (ns.length : Int) then 5 else (ns.length : Int)) > 1 then (if (5 : Int) < (ns.length : Int) then 5 else (ns.length : Int)) else 1) (by split <;> (try split) <;> omega) (fun i Δ => ∃ y1 y2 y3 y4 y5 y6 y7 y8 y9 y10, Δ = [.fct (.scr ns) (TabsIn ts), y1, y2, y3, y4, y5, y6, y7, y8, y9, y10]) ⟨_, _, _, _, _, _, _, _, _, _, rfl⟩ ?_ ?_ ?_ (by split <;> (try split) <;> omega)
  · rintro i Δ hi ⟨y1, y2, y3, y4, y5, y6, y7, y8, y9, y10, rfl⟩
    have hi6 : (i : Int) < 5 := by
      revert hi
      split <;> (try split) <;> omega
    walk_at "z"
    refine ⟨ns, i, rfl, ⟨by omega, by omega⟩, fun x y hy0 hy1 => ?_⟩
    refine sc_toPool 2 (by rfl) ⟨hy0, hy1⟩ ?_
    walk_at "z"
    refine pick_ix (by omega) (by simp only [List.length_cons, List.length_nil]; omega) fun d hd => ?_
    have hdn : ∃ m : Nat, d = .int m ∧ 1 ≤ m ∧ m ≤ 28 := by
      simp only [List.mem_cons, List.not_mem_nil, or_false] at hd
      rcases hd with rfl | rfl
      · exact ⟨6, rfl, by decide, by decide⟩
      · exact ⟨28, rfl, by decide, by decide⟩
    obtain ⟨m, rfl, m1, m28⟩ := hdn
    walk_at "z"
    rename_i r r0 r1
    obtain ⟨n, hn⟩ : ∃ n : Nat, (n : Int) = 3 + r := ⟨(3 + r).toNat, by omega⟩
    rw [← hn]
    refine ⟨n, rfl, by omega, by omega, ?_⟩
    walk_at "z"
    refine ⟨n, rfl, by omega, fun x hx hbx => ?_⟩
    refine sc_seq (sc_asg (ec_new (en_lcR ?_)))
    walk_at "z"
    refine ⟨fun d => ∃ z : Int, d = .int z ∧ -10 < z ∧ z < 10, fun d hd => ?_, fun acc hl ha => ?_⟩
    · walk_at "z"
      first | omega | exact ⟨by omega, by omega⟩
    obtain ⟨sm, rfl, hsm⟩ := ints_of ha
    simp only [List.length_map, List.length_range] at hl
    have hsl : sm.length = n := by omega
    have hxl : (x.map D.int).length = x.length := List.length_map ..
    have hsml : (sm.map D.int).length = sm.length := List.length_map ..
    have hcx : cut (x.map D.int) none (some (-1)) = x.dropLast.map D.int := by rw [cut_init, List.map_dropLast]
    have hcs : cut (sm.map D.int) none (some (-1)) = sm.dropLast.map D.int := by rw [cut_init, List.map_dropLast]
    have hxd : x.dropLast.length = n - 1 := by rw [List.length_dropLast, hx]
    have hsd : sm.dropLast.length = n - 1 := by rw [List.length_dropLast, hsl]
    walk_at "z"
    have hcxl : (cut (x.map D.int) none (some (-1))).length ≤ 100 := by rw [hcx, List.length_map, hxd]; omega
    have hcsl : (cut (sm.map D.int) none (some (-1))).length ≤ 100 := by rw [hcs, List.length_map, hsd]; omega
    refine ⟨x.dropLast, hcx, ?_⟩
    walk_at "z"
    refine ⟨x.dropLast, hcx, ?_⟩
    walk_at "z"
    rename_i r9 r90 r91
    refine ⟨sm.dropLast, hcs, ?_⟩
    walk_at "z"
    refine sc_freeze (i := 6) rfl ?_
    rw [rep_iL, hcx, hcs]
    have hrow : ∀ d ∈ [iL x, iL sm, iL (List.replicate n 0), iL (x.dropLast ++ [0 - x.dropLast.sum]), iL (x.dropLast ++ [1 - x.dropLast.sum]), iL (sm.dropLast ++ [1 + r9 - sm.dropLast.sum])], ∃ z : List Int, d = iL z ∧ z.length = n ∧ ∀ a ∈ z, -(10 ^ 41) < a ∧ a < 10 ^ 41 := by
      have hxs := sum_abs (l := x.dropLast) (B := 10 ^ 39) fun a ha => hbx a (List.dropLast_subset _ ha)
      have hss := sum_abs (l := sm.dropLast) (B := 10) fun a ha => hsm a (List.dropLast_subset _ ha)
      have hxm : ((x.dropLast.length : Nat) : Int) * 10 ^ 39 ≤ 40 * 10 ^ 39 := Int.mul_le_mul_of_nonneg_right (by omega) (by decide)
      have hsm2 : ((sm.dropLast.length : Nat) : Int) * 10 ≤ 40 * 10 := Int.mul_le_mul_of_nonneg_right (by omega) (by decide)
      intro d hd
      simp only [List.mem_cons, List.not_mem_nil, or_false] at hd
      rcases hd with rfl | rfl | rfl | rfl | rfl | rfl
      · exact ⟨_, rfl, hx, fun a ha => by have := hbx a ha; omega⟩
      · exact ⟨_, rfl, hsl, fun a ha => by have := hsm a ha; omega⟩
      · exact ⟨_, rfl, List.length_replicate, fun a ha => by rw [(List.mem_replicate.mp ha).2]; decide⟩
      · refine ⟨_, rfl, by rw [List.length_append, List.length_singleton]; omega, fun a ha => ?_⟩
        rcases List.mem_append.mp ha with ha | ha
        · have := hbx a (List.dropLast_subset _ ha)
          omega
        · cases List.mem_singleton.mp ha
          omega
      · refine ⟨_, rfl, by rw [List.length_append, List.length_singleton]; omega, fun a ha => ?_⟩
        rcases List.mem_append.mp ha with ha | ha
        · have := hbx a (List.dropLast_subset _ ha)
          omega
        · cases List.mem_singleton.mp ha
          omega
      · refine ⟨_, rfl, by rw [List.length_append, List.length_singleton]; omega, fun a ha => ?_⟩
        rcases List.mem_append.mp ha with ha | ha
        · have := hsm a (List.dropLast_subset _ ha)
          omega
        · cases List.mem_singleton.mp ha
          omega
    refine sc_for (ei_list ?_)
    walk_at "z"
    refine ⟨fun t Δ => ∃ y6 y7, Δ = [.fct (.scr ns) (TabsIn ts), .dat (.int i), .dat .pool, .dat (.int n), .dat (iL x), .dat (iL sm), y6, y7, y8, y9, y10], ⟨_, y7, rfl⟩, ?_, ?_⟩
    · rintro t d Δ hd ⟨y6, y7, rfl⟩
      obtain ⟨z, rfl, hzl, hzb⟩ := hrow d (by
        have hm := List.mem_of_getElem? hd
        simp only [List.cons_append, List.nil_append, iL, List.map_append, List.map_cons, List.map_nil] at hm ⊢
        exact hm)
      walk_at "z"
      refine ⟨z, rfl, by omega, by omega, hzb, ?_⟩
      walk_at "z"
      exact ⟨_, _, rfl⟩
    · rintro Δ ⟨y6, y7, rfl⟩
      dsimp only
      refine sc_for (ei_list ?_)
      walk_at "z"
      refine ec_dic0 fun ad => ?_
      walk_at "z"
      have wx : ∀ z ∈ x, -(10 ^ 250) < z ∧ z < 10 ^ 250 := fun z hz => by
        have := hbx z hz
        omega
      have hc2 : cut (x.map D.int) none (some 2) = (x.take 2).map D.int := by
        rw [show (some (2 : Int)) = some ((2 : Nat) : Int) from rfl, cut_to, ← List.map_take]
      refine ⟨fun _ Δ => ∃ y8, Δ = [.fct (.scr ns) (TabsIn ts), .dat (.int i), .dat .pool, .dat (.int n), .dat (iL x), .dat (iL sm), y6, y7, y8, y9, y10], ⟨_, rfl⟩, ?_, ?_⟩
      · rintro a d Δ hd ⟨y8, rfl⟩
        have hm := List.mem_of_getElem? hd
        rw [hc2] at hm
        have hbad : BadQ 3 d := by
          simp only [List.mem_cons, List.not_mem_nil, or_false] at hm
          rcases hm with rfl | rfl | rfl | rfl | rfl | rfl | rfl | rfl
          · exact ⟨⟨_, rfl⟩, trivial, rfl, shw_non.ok (by decide) (by decide), fun z => by cases z⟩
          · exact ⟨⟨_, rfl⟩, ⟨by simp, fun e he => by cases he⟩, rfl, (shw_lstB (ds := []) (n := 0) (e := 0) (m := 0) (N := 100) (fun e he => by cases he) (by simp) (by decide)).ok (by decide) (by decide), fun z => by cases z⟩
          · exact ⟨kd_iL _, kdL_iL (by rw [List.length_take]; omega), short_num (by rw [List.length_map, List.length_take]; omega), (shw_iL (m := 60) (N := 200000) (fun z hz => wx z (List.mem_of_mem_take hz)) (by rw [List.length_take]; omega) (by decide)).ok (by decide) (by decide), fun z => by cases z⟩
          · exact ⟨⟨_, rfl⟩, trivial, rfl, (shw_tupB (n := 1921) (e := 0) (m := 60) (N := 200000) (fun d hd => by
              obtain ⟨i, hi, rfl⟩ := List.mem_map.mp hd
              exact shw_int (wx i hi)) (by rw [List.length_map]; omega) (by decide)).ok (by decide) (by decide), fun z => by cases z⟩
          · exact ⟨⟨_, rfl⟩, trivial, rfl, shw_dic.ok (by decide) (by decide), fun z => by cases z⟩
          · exact badQ_lst (by omega) wx ⟨_, rfl⟩ (shw_bl.mono (by decide) (by decide)) (noI_num rfl)
          · exact badQ_lst (by omega) wx ⟨_, rfl⟩ ((shw_str (n := 100) (by decide +kernel)).mono (by decide) (by decide)) (noI_num rfl)
          · exact ⟨⟨_, rfl⟩, trivial, rfl, (shw_str (n := 100) (by decide +kernel)).ok (by decide) (by decide), fun z => by cases z⟩
        have hshw := hbad.shw
        walk_at "z"
        refine ec_lam (i := 0) rfl mt_law (fun kq kx => wpCSteps C_InvalidPosition [d] kq kx) (fun E' kq kx' hc => ?_) ?_
        · walk_at "z"
          exact hc
        intro kq kx' k1 k2

        refine ⟨d, rfl, hbad.kd, hbad.kdL, fun _ => k2 _ _ hshw hbad.any ⟨rfl, ?_⟩, fun x' ex g1 g2 => hbad.not ex g1 g2⟩
        walk_at "z"
        refine ec_lam (i := 0) rfl mt_law (fun kq kx => wpCEnd C_InvalidPosition [d] (fun o => kq o.d) kx) (fun E' kq kx' hc => ?_) ?_
        · walk_at "z"
          exact hc
        intro kq kx' k1 k2

        refine ⟨d, rfl, hbad.kd, hbad.kdL, fun _ => k2 _ _ hshw hbad.any ⟨rfl, ?_⟩, fun x' ex g1 g2 => hbad.not ex g1 g2⟩
        walk_at "z"

        exact ⟨_, rfl⟩
      · rintro Δ ⟨y8, rfl⟩
        exact ⟨_, _, _, _, _, _, _, _, _, _, rfl⟩
  · rintro Δ ⟨y1, y2, y3, y4, y5, y6, y7, y8, y9, y10, rfl⟩
    walk_at "z"
    rw [long_eq]
    have hll := long_len
    have hls := long_sum
    have hlb := long_bd
    generalize longL = lg at hll hls hlb ⊢
    have noN : ∀ {p : Prop}, (iL lg).isNum 3 = false → p := fun hf => by
      rw [isNum_iL (by omega) (by omega)] at hf
      cases hf
    have ez : csD lg = .int (csF lg) := by
      unfold csD
      rw [if_neg (by omega)]
    refine ⟨_, rfl, kd_iL _, kdL_iL (by omega), noN, fun x' ex _ _ => ?_⟩
    cases iL_inj ex
    refine ⟨by omega, ?_⟩
    rw [ez]
    walk_at "z"
    refine ⟨lg, rfl, by omega, by omega, by omega, by omega, ?_⟩
    have wl : ∀ z ∈ lg, -(10 ^ 250) < z ∧ z < 10 ^ 250 := fun z hz => by
      have := hlb z hz
      omega
    have hbad : BadQ 3 (.lst (lg.map .int ++ [.int 0])) := badQ_lst (e := .int 0) (by omega) wl ⟨_, rfl⟩ (shw_int (by omega)) (long_num (by rw [List.length_append, List.length_map, List.length_singleton]; omega))
    have hshw := hbad.shw
    walk_at "z"
    refine ec_lam (i := 0) rfl mt_law (fun kq kx => wpCSteps C_InvalidPosition [D.lst (lg.map .int ++ [.int 0])] kq kx) (fun E' kq kx' hc => ?_) ?_
    · walk_at "z"
      exact hc
    intro kq kx' k1 k2

    refine ⟨_, rfl, hbad.kd, hbad.kdL, fun _ => k2 _ _ hshw hbad.any ⟨rfl, ?_⟩, fun x' ex g1 g2 => hbad.not ex g1 g2⟩
    walk_at "z"
    refine ⟨_, rfl, kd_iL _, kdL_iL (by omega), noN, fun x' ex _ _ => ?_⟩
    cases iL_inj ex
    refine ⟨by omega, (fun z => absurd z (by omega)), (fun z => absurd z (by omega)), fun _ => ⟨fun z hz => by have := hlb z hz; omega, fun w hw => ?_⟩⟩
    have hnw : w ≠ [] := fun z => by
      have := hw.len
      rw [z, sN_len, List.length_nil] at this
      omega
    have hsw := end_sum (T := lg.sum) hnw
    have hpw := end_nn hw hnw
    have hlw : (endW lg.sum w).length = 200 := by rw [endW_len, hw.len, sN_len, hll]
    dsimp only
    rw [oL_d]
    refine ⟨(endW lg.sum w).map .int, rfl, ?_⟩
    walk_at "z"
    refine ⟨_, rfl, kd_iL _, kdL_iL (by omega), noN, fun x' ex _ _ => ?_⟩
    cases iL_inj ex
    refine ⟨by omega, (fun z => absurd z (by omega)), (fun z => absurd z (by omega)), fun _ => ⟨fun z hz => by have := hlb z hz; omega, fun v hv => ?_⟩⟩
    have hnv : v ≠ [] := fun z => by
      have := hv.len
      rw [z, sN_len, List.length_nil] at this
      omega
    have hsv := end_sum (T := lg.sum) hnv
    have hpv := end_nn hv hnv
    have hlv : (endW lg.sum v).length = 200 := by rw [endW_len, hv.len, sN_len, hll]
    dsimp only
    rw [oL_d]
    refine ⟨(endW lg.sum v).map .int, rfl, ?_⟩
    walk_at "z"
    refine fun m hm _ => ?_
    have hm0 := hpv m hm
    walk_at "z"
    first
      | exact h
      | (rw [decide_eq_true (show m ≥ 0 from hm0)]; exact h)
      | (rw [decide_eq_true (show 0 ≤ m from hm0)]; exact h)
  · intro kl hk
    walk_at "z"
    exact hk
abbrev s_InvalidPosition : Stmt := methS 2 0
theorem sc_InvalidPosition : FnScope ["self", "value"] ["self", "value"] (defScope s_InvalidPosition) := ⟨rfl, rfl, rfl, by decide +kernel, rfl, by decide +kernel, by decide +kernel⟩
theorem init_InvalidPosition {f C : Addr} {fd : FuncData} (F : Fun K "__init__" "InvalidPosition.__init__" s_InvalidPosition f fd) (T : OexB K C "ValueError" "ValueError.__new__" "ValueError.__init__" [.type "ValueError", .type "Exception", .type "BaseException", .type "object"]) (bi : BaseI K mg "GraphError" "ValueError.__init__") : FnOk P w K mg base (L2.CX P w) 1 f fd ["self", "value"] (spInit C) :=
  init_ok F sc_InvalidPosition T fun cdv A outer s H E => (pss_cons (ps_expr (pe_biB (by rfl) bi (pa_cons (pv 0) (pa_cons (pv 1) pa_nil)) (by decide))) (pss_one (ps_setV (pv 0) (pv 1))))
end
theorem all_mk {l : PySem.W.OpenLaw} {w : World} {K : PySem.W.Frag} {h : Heap} {mg : Str → Option Value} {fa : Addr} (X : K.In h) (G : h.Ns mainGlobals mg) (hfa : mg "law" = some (.ref fa))
    {pq : Program} (HT : ∀ (y : Str) (d : DefRec) (c P : Addr), (recsOf pq).find? (fun e => e.name == y) = some d → PySem.W.tabIn K y = some (c, P) → PySem.W.CodeHd h c P ∧ h.get? P = some (PySem.W.tabObj #[]))
    {C_GraphError : Addr}
    (a_GraphError : PySem.W.nsIn K mainGlobals "GraphError" = some (some (.ref C_GraphError)))
    (ga_GraphError : PySem.W.specialIn K (.ref C_GraphError) "__getattribute__" = some (some (.builtin "type.__getattribute__")))
    (rd_GraphError : PySem.W.readsIn K C_GraphError (.type "type") = true)
    (fc_GraphError : PySem.W.findCls K (.ref C_GraphError) (.type "type") "__init__" = some (.val (.builtin "ValueError.__init__")))
    {C_InvalidPosition N_InvalidPosition : Addr} {nm_InvalidPosition q_InvalidPosition : Str} {bs_InvalidPosition sub_InvalidPosition : List Value} {sn_InvalidPosition : List Str} {ab_InvalidPosition : Bool} {col_InvalidPosition : Option Bool} {dd_InvalidPosition : Option Addr} {p0_InvalidPosition p1_InvalidPosition p2_InvalidPosition p3_InvalidPosition p5_InvalidPosition : Option Value}
    (a_InvalidPosition : PySem.W.nsIn K mainGlobals "InvalidPosition" = some (some (.ref C_InvalidPosition)))
    (xl_InvalidPosition : K.lookup C_InvalidPosition = some (excClassObj nm_InvalidPosition q_InvalidPosition C_InvalidPosition N_InvalidPosition bs_InvalidPosition [.ref C_GraphError, .type "ValueError", .type "Exception", .type "BaseException", .type "object"] true sn_InvalidPosition sub_InvalidPosition ab_InvalidPosition col_InvalidPosition dd_InvalidPosition p0_InvalidPosition p1_InvalidPosition p2_InvalidPosition p3_InvalidPosition p5_InvalidPosition "ValueError.__new__"))
    (sa_InvalidPosition : PySem.W.findIn K (.ref C_InvalidPosition) "__setattr__" = some (some (.builtin "object.__setattr__")))
    (ex_InvalidPosition : PySem.W.subIn K (.ref C_InvalidPosition) (.type "BaseException") = some true)
    (ty_InvalidPosition : PySem.W.typeIn K (.ref C_InvalidPosition) = some (.type "type"))
    (kc_InvalidPosition : PySem.W.keepIn K (.ref C_InvalidPosition) = true)
    (nv_InvalidPosition : PySem.W.findIn K (.ref C_InvalidPosition) "value" = some none)
    (gt_InvalidPosition : PySem.W.findIn K (.ref C_InvalidPosition) "__getattribute__" = some (some (.builtin "BaseException.__getattribute__")))
    (gg_InvalidPosition : PySem.W.findIn K (.ref C_InvalidPosition) "__getattr__" = some none)
    (hd_InvalidPosition : PySem.W.hasDictIn K C_InvalidPosition = true)
    {f_InvalidPosition : Addr} {od_InvalidPosition an_InvalidPosition : Option Addr} {sl_InvalidPosition : Array (Option Value)} {oc_InvalidPosition kV_InvalidPosition dc_InvalidPosition pm_InvalidPosition cd_InvalidPosition ct_InvalidPosition : Value}
    (ai_InvalidPosition : PySem.W.findIn K (.ref C_InvalidPosition) "__init__" = some (some (.ref f_InvalidPosition)))
    (ti_InvalidPosition : PySem.W.typeIn K (.ref f_InvalidPosition) = some (.type "function"))
    (l_InvalidPosition : K.lookup f_InvalidPosition = some ⟨oc_InvalidPosition, od_InvalidPosition, .func (PySem.W.fnOf "__init__" "InvalidPosition.__init__" (defArgs s_InvalidPosition) (defBody s_InvalidPosition) (defScope s_InvalidPosition) .none kV_InvalidPosition dc_InvalidPosition pm_InvalidPosition an_InvalidPosition cd_InvalidPosition ct_InvalidPosition), sl_InvalidPosition⟩)
    (c_InvalidPosition : PySem.W.codeIn K cd_InvalidPosition "InvalidPosition.__init__" = true)
    (kf_InvalidPosition : PySem.W.keepIn K (.ref f_InvalidPosition) = true)
    (e_InvalidPosition_InvalidPosition : PySem.W.exmOne K (.ref C_InvalidPosition) (.ref C_InvalidPosition) = some true)
    (z_len : PySem.W.nsIn K mainGlobals "len" = some none)
    (z_range : PySem.W.nsIn K mainGlobals "range" = some none)
    (z_bool : PySem.W.nsIn K mainGlobals "bool" = some none)
    (z_int : PySem.W.nsIn K mainGlobals "int" = some none)
    (z_isinstance : PySem.W.nsIn K mainGlobals "isinstance" = some none)
    (z_all : PySem.W.nsIn K mainGlobals "all" = some none)
    (z_list : PySem.W.nsIn K mainGlobals "list" = some none)
    (z_zip : PySem.W.nsIn K mainGlobals "zip" = some none)
    (z_any : PySem.W.nsIn K mainGlobals "any" = some none)
    (z_sorted : PySem.W.nsIn K mainGlobals "sorted" = some none)
    (z_sum : PySem.W.nsIn K mainGlobals "sum" = some none)
    (z_repr : PySem.W.nsIn K mainGlobals "repr" = some none)
    (z_min : PySem.W.nsIn K mainGlobals "min" = some none)
    (z_max : PySem.W.nsIn K mainGlobals "max" = some none)
    (z_tuple : PySem.W.nsIn K mainGlobals "tuple" = some none)
    {u_MOST_NUMBERS : Value}
    (g_MOST_NUMBERS : PySem.W.nsIn K mainGlobals "MOST_NUMBERS" = some (some u_MOST_NUMBERS))
    (r_MOST_NUMBERS : RelV (.int 200) u_MOST_NUMBERS)
    {f0 : Addr} {od0 an0 : Option Addr} {sl0 : Array (Option Value)} {oc0 kV0 dc0 pm0 cd0 ct0 : Value}
    (a0 : PySem.W.nsIn K mainGlobals "_law_pool" = some (some (.ref f0)))
    (l0 : K.lookup f0 = some ⟨oc0, od0, .func (PySem.W.fnOf "_law_pool" "_law_pool" (defArgs s_Lpool) (defBody s_Lpool) (defScope s_Lpool) .none kV0 dc0 pm0 an0 cd0 ct0), sl0⟩)
    (c0 : PySem.W.codeIn K cd0 "_law_pool" = true)
    (k0 : PySem.W.keepIn K (.ref f0) = true)
    {f1 : Addr} {od1 an1 : Option Addr} {sl1 : Array (Option Value)} {oc1 kV1 dc1 pm1 cd1 ct1 : Value}
    (a1 : PySem.W.nsIn K mainGlobals "_law_take" = some (some (.ref f1)))
    (l1 : K.lookup f1 = some ⟨oc1, od1, .func (PySem.W.fnOf "_law_take" "_law_take" (defArgs s_Ltake) (defBody s_Ltake) (defScope s_Ltake) .none kV1 dc1 pm1 an1 cd1 ct1), sl1⟩)
    (c1 : PySem.W.codeIn K cd1 "_law_take" = true)
    (k1 : PySem.W.keepIn K (.ref f1) = true)
    {f2 : Addr} {od2 an2 : Option Addr} {sl2 : Array (Option Value)} {oc2 kV2 dc2 pm2 cd2 ct2 : Value}
    (a2 : PySem.W.nsIn K mainGlobals "_law_number" = some (some (.ref f2)))
    (l2 : K.lookup f2 = some ⟨oc2, od2, .func (PySem.W.fnOf "_law_number" "_law_number" (defArgs s_Lnumber) (defBody s_Lnumber) (defScope s_Lnumber) .none kV2 dc2 pm2 an2 cd2 ct2), sl2⟩)
    (c2 : PySem.W.codeIn K cd2 "_law_number" = true)
    (k2 : PySem.W.keepIn K (.ref f2) = true)
    {f3 : Addr} {od3 an3 : Option Addr} {sl3 : Array (Option Value)} {oc3 kV3 dc3 pm3 cd3 ct3 : Value}
    (a3 : PySem.W.nsIn K mainGlobals "_law_numbers" = some (some (.ref f3)))
    (l3 : K.lookup f3 = some ⟨oc3, od3, .func (PySem.W.fnOf "_law_numbers" "_law_numbers" (defArgs s_Lnumbers) (defBody s_Lnumbers) (defScope s_Lnumbers) .none kV3 dc3 pm3 an3 cd3 ct3), sl3⟩)
    (c3 : PySem.W.codeIn K cd3 "_law_numbers" = true)
    (k3 : PySem.W.keepIn K (.ref f3) = true)
    {f4 : Addr} {od4 an4 : Option Addr} {sl4 : Array (Option Value)} {oc4 kV4 dc4 pm4 cd4 ct4 : Value}
    (a4 : PySem.W.nsIn K mainGlobals "is_integer" = some (some (.ref f4)))
    (l4 : K.lookup f4 = some ⟨oc4, od4, .func (PySem.W.fnOf "is_integer" "is_integer" (defArgs s_is_integer) (defBody s_is_integer) (defScope s_is_integer) .none kV4 dc4 pm4 an4 cd4 ct4), sl4⟩)
    (c4 : PySem.W.codeIn K cd4 "is_integer" = true)
    (k4 : PySem.W.keepIn K (.ref f4) = true)
    {f5 : Addr} {od5 an5 : Option Addr} {sl5 : Array (Option Value)} {oc5 kV5 dc5 pm5 cd5 ct5 : Value}
    (a5 : PySem.W.nsIn K mainGlobals "check_numbers" = some (some (.ref f5)))
    (l5 : K.lookup f5 = some ⟨oc5, od5, .func (PySem.W.fnOf "check_numbers" "check_numbers" (defArgs s_check_numbers) (defBody s_check_numbers) (defScope s_check_numbers) .none kV5 dc5 pm5 an5 cd5 ct5), sl5⟩)
    (c5 : PySem.W.codeIn K cd5 "check_numbers" = true)
    (k5 : PySem.W.keepIn K (.ref f5) = true)
    {f6 : Addr} {od6 an6 : Option Addr} {sl6 : Array (Option Value)} {oc6 kV6 dc6 pm6 cd6 ct6 : Value}
    (a6 : PySem.W.nsIn K mainGlobals "differences_of" = some (some (.ref f6)))
    (l6 : K.lookup f6 = some ⟨oc6, od6, .func (PySem.W.fnOf "differences_of" "differences_of" (defArgs s_differences_of) (defBody s_differences_of) (defScope s_differences_of) .none kV6 dc6 pm6 an6 cd6 ct6), sl6⟩)
    (c6 : PySem.W.codeIn K cd6 "differences_of" = true)
    (k6 : PySem.W.keepIn K (.ref f6) = true)
    {f7 : Addr} {od7 an7 : Option Addr} {sl7 : Array (Option Value)} {oc7 kV7 dc7 pm7 cd7 ct7 : Value}
    (a7 : PySem.W.nsIn K mainGlobals "sums_of" = some (some (.ref f7)))
    (l7 : K.lookup f7 = some ⟨oc7, od7, .func (PySem.W.fnOf "sums_of" "sums_of" (defArgs s_sums_of) (defBody s_sums_of) (defScope s_sums_of) .none kV7 dc7 pm7 an7 cd7 ct7), sl7⟩)
    (c7 : PySem.W.codeIn K cd7 "sums_of" = true)
    (k7 : PySem.W.keepIn K (.ref f7) = true)
    {f8 : Addr} {od8 an8 : Option Addr} {sl8 : Array (Option Value)} {oc8 kV8 dc8 pm8 cd8 ct8 : Value}
    (a8 : PySem.W.nsIn K mainGlobals "cycle_end" = some (some (.ref f8)))
    (l8 : K.lookup f8 = some ⟨oc8, od8, .func (PySem.W.fnOf "cycle_end" "cycle_end" (defArgs s_cycle_end) (defBody s_cycle_end) (defScope s_cycle_end) .none kV8 dc8 pm8 an8 cd8 ct8), sl8⟩)
    (c8 : PySem.W.codeIn K cd8 "cycle_end" = true)
    (k8 : PySem.W.keepIn K (.ref f8) = true)
    {f9 : Addr} {od9 an9 : Option Addr} {sl9 : Array (Option Value)} {oc9 kV9 dc9 pm9 cd9 ct9 : Value}
    (a9 : PySem.W.nsIn K mainGlobals "_law_zeros" = some (some (.ref f9)))
    (l9 : K.lookup f9 = some ⟨oc9, od9, .func (PySem.W.fnOf "_law_zeros" "_law_zeros" (defArgs s_Lzeros) (defBody s_Lzeros) (defScope s_Lzeros) .none kV9 dc9 pm9 an9 cd9 ct9), sl9⟩)
    (c9 : PySem.W.codeIn K cd9 "_law_zeros" = true)
    (k9 : PySem.W.keepIn K (.ref f9) = true)
    {f10 : Addr} {od10 an10 : Option Addr} {sl10 : Array (Option Value)} {oc10 kV10 dc10 pm10 cd10 ct10 : Value}
    (a10 : PySem.W.nsIn K mainGlobals "arc_sums" = some (some (.ref f10)))
    (l10 : K.lookup f10 = some ⟨oc10, od10, .func (PySem.W.fnOf "arc_sums" "arc_sums" (defArgs s_arc_sums) (defBody s_arc_sums) (defScope s_arc_sums) .none kV10 dc10 pm10 an10 cd10 ct10), sl10⟩)
    (c10 : PySem.W.codeIn K cd10 "arc_sums" = true)
    (k10 : PySem.W.keepIn K (.ref f10) = true)
    {f11 : Addr} {od11 an11 : Option Addr} {sl11 : Array (Option Value)} {oc11 kV11 dc11 pm11 cd11 ct11 : Value}
    (a11 : PySem.W.nsIn K mainGlobals "cycle_steps" = some (some (.ref f11)))
    (l11 : K.lookup f11 = some ⟨oc11, od11, .func (PySem.W.fnOf "cycle_steps" "cycle_steps" (defArgs s_cycle_steps) (defBody s_cycle_steps) (defScope s_cycle_steps) .none kV11 dc11 pm11 an11 cd11 ct11), sl11⟩)
    (c11 : PySem.W.codeIn K cd11 "cycle_steps" = true)
    (k11 : PySem.W.keepIn K (.ref f11) = true)
    {f12 : Addr} {od12 an12 : Option Addr} {sl12 : Array (Option Value)} {oc12 kV12 dc12 pm12 cd12 ct12 : Value}
    (a12 : PySem.W.nsIn K mainGlobals "_law_count" = some (some (.ref f12)))
    (l12 : K.lookup f12 = some ⟨oc12, od12, .func (PySem.W.fnOf "_law_count" "_law_count" (defArgs s_Lcount) (defBody s_Lcount) (defScope s_Lcount) .none kV12 dc12 pm12 an12 cd12 ct12), sl12⟩)
    (c12 : PySem.W.codeIn K cd12 "_law_count" = true)
    (k12 : PySem.W.keepIn K (.ref f12) = true)
    {f13 : Addr} {od13 an13 : Option Addr} {sl13 : Array (Option Value)} {oc13 kV13 dc13 pm13 cd13 ct13 : Value}
    (a13 : PySem.W.nsIn K mainGlobals "_law_error" = some (some (.ref f13)))
    (l13 : K.lookup f13 = some ⟨oc13, od13, .func (PySem.W.fnOf "_law_error" "_law_error" (defArgs s_Lerror) (defBody s_Lerror) (defScope s_Lerror) .none kV13 dc13 pm13 an13 cd13 ct13), sl13⟩)
    (c13 : PySem.W.codeIn K cd13 "_law_error" = true)
    (k13 : PySem.W.keepIn K (.ref f13) = true)
    {f14 : Addr} {od14 an14 : Option Addr} {sl14 : Array (Option Value)} {oc14 kV14 dc14 pm14 cd14 ct14 : Value}
    (a14 : PySem.W.nsIn K mainGlobals "_law_fired" = some (some (.ref f14)))
    (l14 : K.lookup f14 = some ⟨oc14, od14, .func (PySem.W.fnOf "_law_fired" "_law_fired" (defArgs s_Lfired) (defBody s_Lfired) (defScope s_Lfired) .none kV14 dc14 pm14 an14 cd14 ct14), sl14⟩)
    (c14 : PySem.W.codeIn K cd14 "_law_fired" = true)
    (k14 : PySem.W.keepIn K (.ref f14) = true)
    {f15 : Addr} {od15 an15 : Option Addr} {sl15 : Array (Option Value)} {oc15 kV15 dc15 pm15 cd15 ct15 : Value}
    (a15 : PySem.W.nsIn K mainGlobals "_law_right" = some (some (.ref f15)))
    (l15 : K.lookup f15 = some ⟨oc15, od15, .func (PySem.W.fnOf "_law_right" "_law_right" (defArgs s_Lright) (defBody s_Lright) (defScope s_Lright) .none kV15 dc15 pm15 an15 cd15 ct15), sl15⟩)
    (c15 : PySem.W.codeIn K cd15 "_law_right" = true)
    (k15 : PySem.W.keepIn K (.ref f15) = true)
    {f16 : Addr} {od16 an16 : Option Addr} {sl16 : Array (Option Value)} {oc16 kV16 dc16 pm16 ct16 : Value}
    (a16 : PySem.W.nsIn K mainGlobals "law" = some (some (.ref f16)))
    {c_law P_law : Addr}
    (l16 : K.lookup f16 = some ⟨oc16, od16, .func (PySem.W.fnOf "law" "law" (defArgs s_law) (defBody s_law) (defScope s_law) .none kV16 dc16 pm16 an16 (.ref c_law) ct16), sl16⟩)
    (c16 : PySem.W.codeIn K (.ref c_law) "law" = true)
    {o3_law : Value} {d3_law : Option Addr} {v3_law : Array Value} {s3_law : Array (Option Value)}
    (tc_law : K.lookup c_law = some ⟨o3_law, d3_law, .fields v3_law, s3_law⟩)
    (tp_law : v3_law[11]? = some (.ref P_law))
    (tN_law : (K.lookup P_law).isNone = true)
    (tR_law : ((recsOf pq).find? (fun e => e.name == ("law" : Str))).isSome = true)
    (k16 : PySem.W.keepIn K (.ref f16) = true) :
    LawG l w K 8 63 "_law_script" mg fa h := by
  have e := hfa.symm.trans (PySem.W.mg_of X G a16)
  cases e
  letI : PC := ⟨fun _ _ _ => .non⟩
  have tI_law : PySem.W.tabIn K "law" = some (c_law, P_law) := Z.tab_from a16 l16 rfl tc_law tp_law
  obtain ⟨dr_law, tE_law⟩ := Option.isSome_iff_exists.mp tR_law
  refine ⟨PySem.W.fnOf "law" "law" (defArgs s_law) (defBody s_law) (defScope s_law) .none kV16 dc16 pm16 an16 (.ref c_law) ct16, [(c_law, P_law)], spT K [(P_law, lamQ "law")] wpLaw, (by
    intro p hp
    simp only [List.mem_cons, List.not_mem_nil, or_false] at hp
    rcases hp with rfl
    · exact (HT _ _ _ _ tE_law tI_law).2), (by
    intro p hp
    simp only [List.mem_cons, List.not_mem_nil, or_false] at hp
    rcases hp with rfl
    · exact Option.isNone_iff_eq_none.mp tN_law), (by
    intro p hp
    simp only [List.mem_cons, List.not_mem_nil, or_false] at hp
    rcases hp with rfl
    · exact (HT _ _ _ _ tE_law tI_law).1), fun s v => .of_eq rfl, fun H a ns hl hT hN hS => Z.law_spT hl hN (by
    intro p hp
    simp only [List.mem_cons, List.not_mem_nil, or_false] at hp
    rcases hp with rfl
    · exact hT (c_law, P_law) (by simp)) (by
    intro p hp r hr e
    simp only [List.mem_cons, List.not_mem_nil, or_false] at hp hr
    rcases hp with rfl <;> rcases hr with rfl <;> first | (with_reducible rfl)) hS (fun q kx hq => ⟨ns, rfl, hl, hq⟩) (fun _ => rfl), fun base _ _ tb0 => ?_⟩
  have bi_GraphError : BaseI K mg "GraphError" "ValueError.__init__" := .own C_GraphError (PySem.W.mg_of X G a_GraphError) ga_GraphError rd_GraphError fc_GraphError (by decide +kernel)
  have O_InvalidPosition : OexB K C_InvalidPosition "ValueError" "ValueError.__new__" "ValueError.__init__" [.type "ValueError", .type "Exception", .type "BaseException", .type "object"] := ⟨xbV, ⟨_, _, _, _, [C_GraphError], _, _, _, _, _, _, _, _, _, _, xl_InvalidPosition⟩, sa_InvalidPosition, ex_InvalidPosition, ty_InvalidPosition, kc_InvalidPosition, nv_InvalidPosition⟩
  have FX_InvalidPosition := fun_mk (st := s_InvalidPosition) l_InvalidPosition c_InvalidPosition kf_InvalidPosition
  have bx_InvalidPosition := FX_InvalidPosition.binds (ps := ["self", "value"]) fun _ _ _ _ _ _ us hl => match us, hl with | [_, _], _ => rfl
  have x_InvalidPosition : ExcOk l.prog w K mg base "InvalidPosition" C_InvalidPosition := ⟨⟨_, _, _, _, O_InvalidPosition⟩, PySem.W.mg_of X G a_InvalidPosition, ⟨_, _, ai_InvalidPosition, ti_InvalidPosition, init_InvalidPosition (mg := mg) FX_InvalidPosition O_InvalidPosition bi_GraphError, bx_InvalidPosition⟩, ⟨gt_InvalidPosition, gg_InvalidPosition, ex_InvalidPosition, hd_InvalidPosition⟩⟩
  have z_len := PySem.W.mg_none_of X G z_len
  have z_range := PySem.W.mg_none_of X G z_range
  have z_bool := PySem.W.mg_none_of X G z_bool
  have z_int := PySem.W.mg_none_of X G z_int
  have z_isinstance := PySem.W.mg_none_of X G z_isinstance
  have z_all := PySem.W.mg_none_of X G z_all
  have z_list := PySem.W.mg_none_of X G z_list
  have z_zip := PySem.W.mg_none_of X G z_zip
  have z_any := PySem.W.mg_none_of X G z_any
  have z_sorted := PySem.W.mg_none_of X G z_sorted
  have z_sum := PySem.W.mg_none_of X G z_sum
  have z_repr := PySem.W.mg_none_of X G z_repr
  have z_min := PySem.W.mg_none_of X G z_min
  have z_max := PySem.W.mg_none_of X G z_max
  have z_tuple := PySem.W.mg_none_of X G z_tuple
  have g_MOST_NUMBERS : Gv mg "MOST_NUMBERS" (.int 200) := ⟨_, PySem.W.mg_of X G g_MOST_NUMBERS, r_MOST_NUMBERS⟩
  have F0 := fun_mk (st := s_Lpool) l0 c0 k0
  have b0 := F0.binds (ps := ["_law_script", "_law_k"]) fun _ _ _ _ _ _ us hl => match us, hl with | [_, _], _ => rfl
  have c_Lpool := Cal.of (mg := mg) F0 (PySem.W.mg_of X G a0) b0 (ok_Lpool (P := l.prog) (w := w) (mg := mg) (base := base) F0 z_len)
  have F1 := fun_mk (st := s_Ltake) l1 c1 k1
  have b1 := F1.binds (ps := ["_law_pool_here", "_law_sides"]) fun _ _ _ _ _ _ us hl => match us, hl with | [_, _], _ => rfl
  have c_Ltake := Cal.of (mg := mg) F1 (PySem.W.mg_of X G a1) b1 (ok_Ltake (P := l.prog) (w := w) (mg := mg) (base := base) F1)
  have F2 := fun_mk (st := s_Lnumber) l2 c2 k2
  have b2 := F2.binds (ps := ["_law_pool_here"]) fun _ _ _ _ _ _ us hl => match us, hl with | [_], _ => rfl
  have c_Lnumber := Cal.of (mg := mg) F2 (PySem.W.mg_of X G a2) b2 (ok_Lnumber (P := l.prog) (w := w) (mg := mg) (base := base) F2 c_Ltake)
  have F3 := fun_mk (st := s_Lnumbers) l3 c3 k3
  have b3 := F3.binds (ps := ["_law_pool_here", "_law_many"]) fun _ _ _ _ _ _ us hl => match us, hl with | [_, _], _ => rfl
  have c_Lnumbers := Cal.of (mg := mg) F3 (PySem.W.mg_of X G a3) b3 (ok_Lnumbers (P := l.prog) (w := w) (mg := mg) (base := base) F3 z_range c_Lnumber)
  have F4 := fun_mk (st := s_is_integer) l4 c4 k4
  have b4 := F4.binds (ps := ["thing"]) fun _ _ _ _ _ _ us hl => match us, hl with | [_], _ => rfl
  have c_is_integer := Cal.of (mg := mg) F4 (PySem.W.mg_of X G a4) b4 (ok_is_integer (P := l.prog) (w := w) (mg := mg) (base := base) F4 z_bool z_int z_isinstance)
  have F5 := fun_mk (st := s_check_numbers) l5 c5 k5
  have b5 := F5.binds (ps := ["numbers", "least"]) fun _ _ _ _ _ _ us hl => match us, hl with | [_, _], _ => rfl
  have c_check_numbers := Cal.of (mg := mg) F5 (PySem.W.mg_of X G a5) b5 (ok_check_numbers (P := l.prog) (w := w) (mg := mg) (base := base) F5 z_all z_isinstance z_len z_list g_MOST_NUMBERS c_is_integer x_InvalidPosition)
  have F6 := fun_mk (st := s_differences_of) l6 c6 k6
  have b6 := F6.binds (ps := ["sums"]) fun _ _ _ _ _ _ us hl => match us, hl with | [_], _ => rfl
  have c_differences_of := Cal.of (mg := mg) F6 (PySem.W.mg_of X G a6) b6 (ok_differences_of (P := l.prog) (w := w) (mg := mg) (base := base) F6 z_zip)
  have F7 := fun_mk (st := s_sums_of) l7 c7 k7
  have b7 := F7.binds (ps := ["numbers"]) fun _ _ _ _ _ _ us hl => match us, hl with | [_], _ => rfl
  have c_sums_of := Cal.of (mg := mg) F7 (PySem.W.mg_of X G a7) b7 (ok_sums_of (P := l.prog) (w := w) (mg := mg) (base := base) F7)
  have F8 := fun_mk (st := s_cycle_end) l8 c8 k8
  have b8 := F8.binds (ps := ["numbers"]) fun _ _ _ _ _ _ us hl => match us, hl with | [_], _ => rfl
  have c_cycle_end := Cal.of (mg := mg) F8 (PySem.W.mg_of X G a8) b8 (ok_cycle_end (P := l.prog) (w := w) (mg := mg) (base := base) F8 z_any z_len z_list z_sorted z_sum c_check_numbers c_differences_of c_sums_of)
  have F9 := fun_mk (st := s_Lzeros) l9 c9 k9
  have b9 := F9.binds (ps := ["_law_many"]) fun _ _ _ _ _ _ us hl => match us, hl with | [_], _ => rfl
  have c_Lzeros := Cal.of (mg := mg) F9 (PySem.W.mg_of X G a9) b9 (ok_Lzeros (P := l.prog) (w := w) (mg := mg) (base := base) F9 c_cycle_end)
  have F10 := fun_mk (st := s_arc_sums) l10 c10 k10
  have b10 := F10.binds (ps := ["numbers"]) fun _ _ _ _ _ _ us hl => match us, hl with | [_], _ => rfl
  have c_arc_sums := Cal.of (mg := mg) F10 (PySem.W.mg_of X G a10) b10 (ok_arc_sums (P := l.prog) (w := w) (mg := mg) (base := base) F10 z_len z_range)
  have F11 := fun_mk (st := s_cycle_steps) l11 c11 k11
  have b11 := F11.binds (ps := ["numbers"]) fun _ _ _ _ _ _ us hl => match us, hl with | [_], _ => rfl
  have c_cycle_steps := Cal.of (mg := mg) F11 (PySem.W.mg_of X G a11) b11 (ok_cycle_steps (P := l.prog) (w := w) (mg := mg) (base := base) F11 z_any z_sum c_arc_sums c_check_numbers)
  have F12 := fun_mk (st := s_Lcount) l12 c12 k12
  have b12 := F12.binds (ps := ["_law_row"]) fun _ _ _ _ _ _ us hl => match us, hl with | [_], _ => rfl
  have c_Lcount := Cal.of (mg := mg) F12 (PySem.W.mg_of X G a12) b12 (ok_Lcount (P := l.prog) (w := w) (mg := mg) (base := base) F12 z_len z_range z_sum)
  have F13 := fun_mk (st := s_Lerror) l13 c13 k13
  have b13 := F13.binds (ps := ["_law_door"]) fun _ _ _ _ _ _ us hl => match us, hl with | [_], _ => rfl
  have c_Lerror := CalL.of (mg := mg) F13 (PySem.W.mg_of X G a13) b13 (ok_Lerror (P := l.prog) (w := w) (mg := mg) (base := base) F13 z_repr x_InvalidPosition e_InvalidPosition_InvalidPosition)
  have F14 := fun_mk (st := s_Lfired) l14 c14 k14
  have b14 := F14.binds (ps := ["_law_row", "_law_node"]) fun _ _ _ _ _ _ us hl => match us, hl with | [_, _], _ => rfl
  have c_Lfired := Cal.of (mg := mg) F14 (PySem.W.mg_of X G a14) b14 (ok_Lfired (P := l.prog) (w := w) (mg := mg) (base := base) F14 z_len z_list)
  have F15 := fun_mk (st := s_Lright) l15 c15 k15
  have b15 := F15.binds (ps := ["_law_pool_here", "_law_row"]) fun _ _ _ _ _ _ us hl => match us, hl with | [_, _], _ => rfl
  have c_Lright := CalG.of (mg := mg) F15 (PySem.W.mg_of X G a15) b15 (ok_Lright (P := l.prog) (w := w) (mg := mg) (base := base) F15 z_len z_min z_range z_repr z_sum c_Lcount c_Lfired c_Ltake c_cycle_end c_cycle_steps)
  have tb_law := tb0 (c_law, P_law) (by simp)
  have hc_law := fun cdv (h : CdOf K "law" "law" s_law _ cdv) => CdOf.eq l16 h
  have mt_law : (P_law, lamQ "law") ∈ [(P_law, lamQ "law")] := by simp
  have F16 := fun_mk (st := s_law) l16 c16 k16
  exact ok_law (P := l.prog) (w := w) (mg := mg) (base := base) (ts := [(P_law, lamQ "law")]) F16 z_len z_max z_min z_range z_repr z_sum z_tuple c_Lcount c_Lerror c_Lnumbers c_Lpool c_Lright c_Ltake c_Lzeros c_cycle_end c_cycle_steps tb_law hc_law mt_law
end My
open PySem PySem.W PyProof.Rows
set_option maxHeartbeats 0 in
theorem PySem.Challenge.cw_firenegatives_k21_whole_cycles_in_closed_holds : PySem.Challenge.rw_firenegatives_k21_whole_cycles_in_closed.Holds := by
  w_on; o_law; k_head; (case hw => w_witness2)
  k_fill
  refine Z.walk_GT (l := PySem.Challenge.rw_firenegatives_k21_whole_cycles_in_closed) (n := 63) (k := 8) (x := "_law_script") rfl (by decide) rfl ⟨rfl, by decide, by decide⟩ (fun w h Y => PySem.W.km_in_of Y) ?F
  case F =>
    intro w mg fa h HT YP KX G hmg
    refine' My.all_mk KX G hmg HT ?a_GraphError ?ga_GraphError ?rd_GraphError ?fc_GraphError ?a_InvalidPosition ?xl_InvalidPosition ?sa_InvalidPosition ?ex_InvalidPosition ?ty_InvalidPosition ?kc_InvalidPosition ?nv_InvalidPosition ?gt_InvalidPosition ?gg_InvalidPosition ?hd_InvalidPosition ?ai_InvalidPosition ?ti_InvalidPosition ?l_InvalidPosition ?c_InvalidPosition ?kf_InvalidPosition ?e_InvalidPosition_InvalidPosition ?z_len ?z_range ?z_bool ?z_int ?z_isinstance ?z_all ?z_list ?z_zip ?z_any ?z_sorted ?z_sum ?z_repr ?z_min ?z_max ?z_tuple ?g_MOST_NUMBERS ?r_MOST_NUMBERS ?a0 ?l0 ?c0 ?k0 ?a1 ?l1 ?c1 ?k1 ?a2 ?l2 ?c2 ?k2 ?a3 ?l3 ?c3 ?k3 ?a4 ?l4 ?c4 ?k4 ?a5 ?l5 ?c5 ?k5 ?a6 ?l6 ?c6 ?k6 ?a7 ?l7 ?c7 ?k7 ?a8 ?l8 ?c8 ?k8 ?a9 ?l9 ?c9 ?k9 ?a10 ?l10 ?c10 ?k10 ?a11 ?l11 ?c11 ?k11 ?a12 ?l12 ?c12 ?k12 ?a13 ?l13 ?c13 ?k13 ?a14 ?l14 ?c14 ?k14 ?a15 ?l15 ?c15 ?k15 ?a16 ?l16 ?c16 ?tc_law ?tp_law ?tN_law ?tR_law ?k16
    (case a_GraphError => k_is)
    (case ga_GraphError => k_is)
    (case rd_GraphError => k_is)
    (case fc_GraphError => k_is)
    (case a_InvalidPosition => k_is)
    (case xl_InvalidPosition => k_is)
    (case sa_InvalidPosition => k_is)
    (case ex_InvalidPosition => k_is)
    (case ty_InvalidPosition => k_is)
    (case kc_InvalidPosition => k_is)
    (case nv_InvalidPosition => k_is)
    (case gt_InvalidPosition => k_is)
    (case gg_InvalidPosition => k_is)
    (case hd_InvalidPosition => k_is)
    (case ai_InvalidPosition => k_is)
    (case ti_InvalidPosition => k_is)
    (case l_InvalidPosition => k_is)
    (case c_InvalidPosition => k_is)
    (case kf_InvalidPosition => k_is)
    (case e_InvalidPosition_InvalidPosition => first | rfl | k_is | decide +kernel)
    (case z_len => k_is)
    (case z_range => k_is)
    (case z_bool => k_is)
    (case z_int => k_is)
    (case z_isinstance => k_is)
    (case z_all => k_is)
    (case z_list => k_is)
    (case z_zip => k_is)
    (case z_any => k_is)
    (case z_sorted => k_is)
    (case z_sum => k_is)
    (case z_repr => k_is)
    (case z_min => k_is)
    (case z_max => k_is)
    (case z_tuple => k_is)
    (case g_MOST_NUMBERS => k_is)
    (case r_MOST_NUMBERS => exact ⟨_, rfl⟩)
    (case a0 => k_is)
    (case l0 => k_is)
    (case c0 => k_is)
    (case k0 => k_is)
    (case a1 => k_is)
    (case l1 => k_is)
    (case c1 => k_is)
    (case k1 => k_is)
    (case a2 => k_is)
    (case l2 => k_is)
    (case c2 => k_is)
    (case k2 => k_is)
    (case a3 => k_is)
    (case l3 => k_is)
    (case c3 => k_is)
    (case k3 => k_is)
    (case a4 => k_is)
    (case l4 => k_is)
    (case c4 => k_is)
    (case k4 => k_is)
    (case a5 => k_is)
    (case l5 => k_is)
    (case c5 => k_is)
    (case k5 => k_is)
    (case a6 => k_is)
    (case l6 => k_is)
    (case c6 => k_is)
    (case k6 => k_is)
    (case a7 => k_is)
    (case l7 => k_is)
    (case c7 => k_is)
    (case k7 => k_is)
    (case a8 => k_is)
    (case l8 => k_is)
    (case c8 => k_is)
    (case k8 => k_is)
    (case a9 => k_is)
    (case l9 => k_is)
    (case c9 => k_is)
    (case k9 => k_is)
    (case a10 => k_is)
    (case l10 => k_is)
    (case c10 => k_is)
    (case k10 => k_is)
    (case a11 => k_is)
    (case l11 => k_is)
    (case c11 => k_is)
    (case k11 => k_is)
    (case a12 => k_is)
    (case l12 => k_is)
    (case c12 => k_is)
    (case k12 => k_is)
    (case a13 => k_is)
    (case l13 => k_is)
    (case c13 => k_is)
    (case k13 => k_is)
    (case a14 => k_is)
    (case l14 => k_is)
    (case c14 => k_is)
    (case k14 => k_is)
    (case a15 => k_is)
    (case l15 => k_is)
    (case c15 => k_is)
    (case k15 => k_is)
    (case a16 => k_is)
    (case l16 => k_is)
    (case c16 => k_is)
    (case tc_law => k_is)
    (case tp_law => rfl)
    (case tN_law => kernel_rfl)
    (case tR_law => kernel_rfl)
    (case k16 => k_is)
