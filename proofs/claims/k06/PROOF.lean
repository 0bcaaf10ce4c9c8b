import PyProof.Rows.All
import Wide.All
import OpenK.AllK
import Wide.FinOn
import HandS.ForMost
import HandS.ForExc
import HandS.TupAny
import HandS.TupMul
import HandS.SortInts
import HandS.IsInst
import HandS.Style
import HandS.EndBits
import HandS.Lambda
import HandS.EndTab
import HandS.FromBytesMap
import HandS.SortKw
import HandS.Flow
import KE.DataCmp
import KE.KMinKey
import HandS.ExcIs
import HandS.Conv
import HandS.RevRange
import PyProof.CollectIter
import KE.SortKeyHeap
import HandS.Flow
import PySem.Challenge.RW_oddreel_k06_whole_rounds_bring_distances
set_option Elab.async false
set_option linter.all false
set_option maxRecDepth 100000
set_option maxHeartbeats 4000000
namespace Od
/-- the name of the lambda that is made, and where the table of its maker's code stands -/
def QL : PySem.Str := "_law_order.<locals>.<lambda>"
def PL : PySem.Addr := 85
end Od

namespace Od
open PySem PySem.Spec PyProof.Rows L2

/-! ### data -/
section
variable {K : PySem.W.Frag} {H H' : Hp}
theorem sqt_mono {a : Addr} {xs : List V} (e : Same H H') (h : SqT K H a xs) : SqT K H' a xs := by
  rcases h with (h | ⟨o, h⟩) | h
  · exact .inl (.inl (e _ _ h))
  · exact .inl (.inr ⟨o, e _ _ h⟩)
  · exact .inr h
mutual
theorem dp_mono (e : Same H H') : ∀ (d : PyData) (v : V), Dp K H v d → Dp K H' v d
  | .none, _, h => by cases h; exact .non
  | .bool b, _, h => by cases h; exact .bl b
  | .int i, _, h => by cases h; exact .int i
  | .str x, _, h => by cases h; exact .str x
  | .list ds, _, h => by
    cases h with
    | lst hs ha => exact .lst (e.seq hs) (dpa_mono e ds _ ha)
  | .tuple ds, _, h => by
    cases h with
    | tup hs ha => exact .tup (sqt_mono e hs) (dpa_mono e ds _ ha)
  | .dict _, _, h => by cases h
theorem dpa_mono (e : Same H H') : ∀ (ds : List PyData) (vs : List V), DpAll K H vs ds → DpAll K H' vs ds
  | [], _, h => by cases h; exact .nil
  | d :: ds, _, h => by
    cases h with
    | cons h1 h2 => exact .cons (dp_mono e d _ h1) (dpa_mono e ds _ h2)
end
theorem dpa_len : ∀ {vs : List V} {ds : List PyData}, DpAll K H vs ds → vs.length = ds.length
  | _, _, .nil => rfl
  | _, _, .cons _ t => by rw [List.length_cons, List.length_cons, dpa_len t]
theorem dpa_get : ∀ {vs : List V} {ds : List PyData} {i : Nat} {d : PyData}, DpAll K H vs ds → ds[i]? = some d → ∃ v, vs[i]? = some v ∧ Dp K H v d
  | _, _, _, _, .nil, e => by simp at e
  | _, _, 0, _, .cons r _, e => by simp at e; subst e; exact ⟨_, rfl, r⟩
  | _, _, i + 1, _, .cons _ t, e => by
    obtain ⟨v, h1, h2⟩ := dpa_get (i := i) t (by simpa using e)
    exact ⟨v, by simpa using h1, h2⟩
theorem dpa_getv : ∀ {vs : List V} {ds : List PyData} {i : Nat} {v : V}, DpAll K H vs ds → vs[i]? = some v → ∃ d, ds[i]? = some d ∧ Dp K H v d
  | _, _, _, _, .nil, e => by simp at e
  | _, _, 0, _, .cons r _, e => by simp at e; subst e; exact ⟨_, rfl, r⟩
  | _, _, i + 1, _, .cons _ t, e => by
    obtain ⟨d, h1, h2⟩ := dpa_getv (i := i) t (by simpa using e)
    exact ⟨d, by simpa using h1, h2⟩
theorem dpa_app : ∀ {vs ws : List V} {ds es : List PyData}, DpAll K H vs ds → DpAll K H ws es → DpAll K H (vs ++ ws) (ds ++ es)
  | _, _, _, _, .nil, s => s
  | _, _, _, _, .cons r t, s => .cons r (dpa_app t s)
theorem dpa_take : ∀ {vs : List V} {ds : List PyData} (n : Nat), DpAll K H vs ds → DpAll K H (vs.take n) (ds.take n)
  | _, _, 0, _ => .nil
  | _, _, _ + 1, .nil => .nil
  | _, _, n + 1, .cons r t => .cons r (dpa_take n t)
theorem dpa_drop : ∀ {vs : List V} {ds : List PyData} (n : Nat), DpAll K H vs ds → DpAll K H (vs.drop n) (ds.drop n)
  | _, _, 0, s => s
  | _, _, _ + 1, .nil => .nil
  | _, _, n + 1, .cons _ t => dpa_drop n t
theorem dpa_set {v : V} {d : PyData} (r : Dp K H v d) : ∀ {vs : List V} {ds : List PyData} (n : Nat), DpAll K H vs ds → DpAll K H (vs.set n v) (ds.set n d)
  | _, _, _, .nil => .nil
  | _, _, 0, .cons _ t => .cons r t
  | _, _, n + 1, .cons q t => .cons q (dpa_set r n t)
theorem dpa_erase : ∀ {vs : List V} {ds : List PyData} (n : Nat), DpAll K H vs ds → DpAll K H (vs.eraseIdx n) (ds.eraseIdx n)
  | _, _, _, .nil => .nil
  | _, _, 0, .cons _ t => t
  | _, _, n + 1, .cons q t => .cons q (dpa_erase n t)
theorem dpa_ints : ∀ ns : List Int, DpAll K H (ns.map V.int) (ns.map PyData.int)
  | [] => .nil
  | n :: ns => .cons (.int n) (dpa_ints ns)
theorem dpa_ints_inv : ∀ {ns : List Int} {vs : List V}, DpAll K H vs (ns.map PyData.int) → vs = ns.map V.int
  | [], _, h => by cases h; rfl
  | n :: ns, _, h => by
    cases h with
    | cons h1 h2 => cases h1; rw [dpa_ints_inv h2]; rfl
theorem dpa_bls : ∀ bs : List Bool, DpAll K H (bs.map V.bl) (bs.map PyData.bool)
  | [] => .nil
  | b :: bs => .cons (.bl b) (dpa_bls bs)
theorem dpa_bls_inv : ∀ {bs : List Bool} {vs : List V}, DpAll K H vs (bs.map PyData.bool) → vs = bs.map V.bl
  | [], _, h => by cases h; rfl
  | n :: ns, _, h => by
    cases h with
    | cons h1 h2 => cases h1; rw [dpa_bls_inv h2]; rfl
theorem dpa_rep {v : V} {d : PyData} (r : Dp K H v d) : ∀ n : Nat, DpAll K H (List.replicate n v) (List.replicate n d)
  | 0 => .nil
  | n + 1 => .cons r (dpa_rep r n)
end

/-- all but the tables of code objects stay, and these stay tables of their own code -/
structure Gro (H H' : Hp) : Prop where
  e : ∀ b o, H b = some o → (∀ ps, o ≠ .tbl ps) → H' b = some o
  n : ∀ b, H b ≠ none → H' b ≠ none
  t : LamX.TabS H PL QL → LamX.TabS H' PL QL
instance {H H' : Hp} : CoeFun (Gro H H') fun _ => ∀ b xs, H b = some (.lst xs) → H' b = some (.lst xs) := ⟨fun g b xs h => g.e b _ h fun ps z => nomatch z⟩
theorem Gro.of {H H' : Hp} (h : Same H H') : Gro H H' := ⟨fun b o q _ => h b o q, fun b m => by
  cases q : H b with
  | none => exact absurd q m
  | some o => rw [h b o q]; exact fun z => (nomatch z), fun t => t.ext h⟩
theorem Gro.refl (H : Hp) : Gro H H := .of (.refl H)
theorem Gro.trans {H H1 H2 : Hp} (a : Gro H H1) (b : Gro H1 H2) : Gro H H2 := ⟨fun c o h n => b.e c o (a.e c o h n) n, fun c h => b.n c (a.n c h), fun t => b.t (a.t t)⟩
theorem Gro.free {H H' : Hp} {l : Addr} (g : Gro H H') (h : H' l = none) : H l = none := by
  cases q : H l with
  | none => rfl
  | some o => exact absurd h (g.n l (by rw [q]; exact fun z => nomatch z))
theorem Gro.mutL {H H' : Hp} {p : Addr} {xs : List V} {o : HO} (g : Gro H H') (h : H p = none) (hl : H' p = some (.lst xs)) : Gro H (upd H' p o) :=
  ⟨fun b u e n => by rw [upd_ne (ne_of_none e h)]; exact g.e b u e n, fun b m => by
    by_cases hb : b = p
    · rw [hb, upd_same]; exact fun z => nomatch z
    · rw [upd_ne hb]; exact g.n b m, fun t => by
    obtain ⟨ps, h1, h2, h3⟩ := g.t t
    have e1 : PL ≠ p := fun z => by rw [z, hl] at h1; cases h1
    refine ⟨ps, by rw [upd_ne e1]; exact h1, h2, fun pos cv hc => ?_⟩
    obtain ⟨c, q1, q2⟩ := h3 pos cv hc
    have e2 : c ≠ p := fun z => by rw [z, hl] at q2; unfold LamX.CodeO at q2; cases q2
    exact ⟨c, q1, by rw [upd_ne e2]; exact q2⟩⟩
section
variable {K : PySem.W.Frag} {H H' : Hp}
theorem Gro.seq {a : Addr} {xs : List V} (g : Gro H H') (h : SqL K H a xs) : SqL K H' a xs := by
  rcases h with (h | ⟨o, h⟩) | h
  · exact .inl (.inl (g.e _ _ h fun ps z => nomatch z))
  · exact .inl (.inr ⟨o, g.e _ _ h fun ps z => nomatch z⟩)
  · exact .inr h
theorem sqt_monoG {a : Addr} {xs : List V} (g : Gro H H') (h : SqT K H a xs) : SqT K H' a xs := by
  rcases h with (h | ⟨o, h⟩) | h
  · exact .inl (.inl (g.e _ _ h fun ps z => nomatch z))
  · exact .inl (.inr ⟨o, g.e _ _ h fun ps z => nomatch z⟩)
  · exact .inr h
mutual
theorem dp_monoG (e : Gro H H') : ∀ (d : PyData) (v : V), Dp K H v d → Dp K H' v d
  | .none, _, h => by cases h; exact .non
  | .bool b, _, h => by cases h; exact .bl b
  | .int i, _, h => by cases h; exact .int i
  | .str x, _, h => by cases h; exact .str x
  | .list ds, _, h => by
    cases h with
    | lst hs ha => exact .lst (e.seq hs) (dpa_monoG e ds _ ha)
  | .tuple ds, _, h => by
    cases h with
    | tup hs ha => exact .tup (sqt_monoG e hs) (dpa_monoG e ds _ ha)
  | .dict _, _, h => by cases h
theorem dpa_monoG (e : Gro H H') : ∀ (ds : List PyData) (vs : List V), DpAll K H vs ds → DpAll K H' vs ds
  | [], _, h => by cases h; exact .nil
  | d :: ds, _, h => by
    cases h with
    | cons h1 h2 => exact .cons (dp_monoG e d _ h1) (dpa_monoG e ds _ h2)
end
end
/-- the table of code objects stands, and the base knows nothing of it -/
structure Tb (B H : Hp) : Prop where
  b : B PL = none
  t : LamX.TabS H PL QL
theorem Tb.ne {B H : Hp} (T : Tb B H) : H PL ≠ none := by
  obtain ⟨ps, h, _⟩ := T.t
  rw [h]; exact fun z => nomatch z
theorem Tb.mutL {B H : Hp} {p : Addr} {xs : List V} {o : HO} (T : Tb B H) (hl : H p = some (.lst xs)) : Tb B (upd H p o) := ⟨T.b, by
  obtain ⟨ps, h1, h2, h3⟩ := T.t
  have e1 : PL ≠ p := fun z => by rw [z, hl] at h1; cases h1
  refine ⟨ps, by rw [upd_ne e1]; exact h1, h2, fun pos cv hc => ?_⟩
  obtain ⟨c, q1, q2⟩ := h3 pos cv hc
  have e2 : c ≠ p := fun z => by rw [z, hl] at q2; unfold LamX.CodeO at q2; cases q2
  exact ⟨c, q1, by rw [upd_ne e2]; exact q2⟩⟩
/-! ### a step: base and heap grow; what the base does not know of the heap it does not learn -/
structure Stp (B H B' H' : Hp) : Prop where
  b : Same B B'
  h : Gro H H'
  i : Same B' H'
  f : ∀ a, B a = none → H a ≠ none → B' a = none
theorem Stp.refl {B H : Hp} (i : Same B H) : Stp B H B H := ⟨Same.refl _, Gro.refl _, i, fun a h _ => h⟩
theorem Stp.trans {B H B1 H1 B2 H2 : Hp} (x : Stp B H B1 H1) (y : Stp B1 H1 B2 H2) : Stp B H B2 H2 := ⟨x.b.trans y.b, x.h.trans y.h, y.i, fun a n m => y.f a (x.f a n m) (x.h.n a m)⟩
theorem same_new {H : Hp} {p : Addr} {o : HO} (h : H p = none) : Same H (upd H p o) := fun b x e => by
  rw [upd_ne (ne_of_none e h)]
  exact e
theorem same_upd {B H : Hp} {p : Addr} {o : HO} (i : Same B H) : Same (upd B p o) (upd H p o) := fun b x e => by
  by_cases hb : b = p
  · subst hb; rw [upd_same] at e; rw [upd_same]; exact e
  · rw [upd_ne hb] at e; rw [upd_ne hb]; exact i _ _ e
theorem same_mut {B H : Hp} {p : Addr} {o : HO} (i : Same B H) (h : B p = none) : Same B (upd H p o) := fun b x e => by
  rw [upd_ne (ne_of_none e h)]
  exact i _ _ e
theorem Stp.new {B H : Hp} {p : Addr} {o : HO} (i : Same B H) (h : H p = none) : Stp B H (upd B p o) (upd H p o) :=
  ⟨same_new (i.free h), .of (same_new h), same_upd i, fun a n m => by
    have : a ≠ p := fun z => m (by rw [z]; exact h)
    rw [upd_ne this]; exact n⟩
/-- a new object that the base does not take up -/
theorem Stp.skip {B H : Hp} {p : Addr} {o : HO} (i : Same B H) (h : H p = none) : Stp B H B (upd H p o) :=
  ⟨Same.refl _, .of (same_new h), same_mut i (i.free h), fun a n _ => n⟩
/-- a new object, not in the base at the start, changes -/
theorem Stp.mut {B H B' H' : Hp} {p : Addr} {o : HO} {ys : List V} (x : Stp B H B' H') (h : H p = none) (hb : B' p = none) (hl : H' p = some (.lst ys)) : Stp B H B' (upd H' p o) :=
  ⟨x.b, x.h.mutL h hl, same_mut x.i hb, x.f⟩
/-- .. and is taken up -/
theorem Stp.take {B H B' H' : Hp} {p : Addr} {o : HO} (x : Stp B H B' H') (h : H p = none) (hb : B' p = none) (hh : H' p = some o) : Stp B H (upd B' p o) H' :=
  ⟨fun a u e => by
    have : a ≠ p := fun z => by rw [z, (x.i.free (l := p) |> fun _ => (show B p = none from by
      cases q : B p with
      | none => rfl
      | some w => have := x.b _ _ q; rw [hb] at this; cases this))] at e; cases e
    rw [upd_ne this]; exact x.b _ _ e, x.h, fun a u e => by
    by_cases z : a = p
    · subst z; rw [upd_same] at e; cases e; exact hh
    · rw [upd_ne z] at e; exact x.i _ _ e, fun a n m => by
    have : a ≠ p := fun z => m (by rw [z]; exact h)
    rw [upd_ne this]; exact x.f a n m⟩

theorem Stp.tb {B H B' H' : Hp} (x : Stp B H B' H') (T : Tb B H) : Tb B' H' := ⟨x.f PL T.b T.ne, x.h.t T.t⟩
/-! ### slots -/
inductive Sl where
  | no
  | im (d : PyData)
  | ow (ds : List PyData)
abbrev Rho := List Sl

structure EnvR (K : PySem.W.Frag) (B H : Hp) (s : L2.St) (r : Rho) : Prop where
  i : Same B H
  tb : Tb B H
  len : s.length = r.length
  im : ∀ {n : Nat} {d : PyData}, r[n]? = some (.im d) → ∃ v, s[n]? = some (some v) ∧ Dp K B v d
  ow : ∀ {n : Nat} {ds : List PyData}, r[n]? = some (.ow ds) → ∃ l xs, s[n]? = some (some (.ref l)) ∧ H l = some (.lst xs) ∧ DpAll K B xs ds ∧ B l = none
  ne : ∀ {n m : Nat} {ds es : List PyData} {l : Addr}, r[n]? = some (.ow ds) → r[m]? = some (.ow es) → s[n]? = some (some (.ref l)) → s[m]? = some (some (.ref l)) → n = m
section
variable {K : PySem.W.Frag} {B H B' H' : Hp} {s : L2.St} {r : Rho}
theorem EnvR.mono (e : EnvR K B H s r) (x : Stp B H B' H') : EnvR K B' H' s r where
  i := x.i
  tb := x.tb e.tb
  len := e.len
  im := fun h => let ⟨v, h1, h2⟩ := e.im h; ⟨v, h1, dp_mono x.b _ _ h2⟩
  ow := fun h => let ⟨l, xs, h1, h2, h3, h4⟩ := e.ow h; ⟨l, xs, h1, x.h _ _ h2, dpa_mono x.b _ _ h3, x.f _ h4 (by rw [h2]; exact fun z => nomatch z)⟩
  ne := e.ne
theorem get_set {α : Type} {l : List α} {n m : Nat} {a b : α} (h : (l.set n a)[m]? = some b) : (m = n ∧ b = a ∧ n < l.length) ∨ (m ≠ n ∧ l[m]? = some b) := by
  rw [List.getElem?_set] at h
  split at h
  · rename_i e
    split at h
    · rename_i z
      cases h
      exact .inl ⟨e.symm, rfl, z⟩
    · cases h
  · rename_i e
    exact .inr ⟨fun z => e z.symm, h⟩
theorem EnvR.set_im (e : EnvR K B H s r) {n : Nat} {v : V} {d : PyData} (h : Dp K B v d) : EnvR K B H (s.set n (some v)) (r.set n (.im d)) where
  i := e.i
  tb := e.tb
  len := by rw [List.length_set, List.length_set, e.len]
  im := fun {m d'} h' => by
    rcases get_set h' with ⟨rfl, h1, h2⟩ | ⟨h1, h2⟩
    · cases h1
      exact ⟨v, by rw [List.getElem?_set_self (by rw [e.len]; exact h2)], h⟩
    · obtain ⟨w, q1, q2⟩ := e.im h2
      exact ⟨w, by rw [List.getElem?_set_ne (fun z => h1 z.symm)]; exact q1, q2⟩
  ow := fun {m ds} h' => by
    rcases get_set h' with ⟨rfl, h1, h2⟩ | ⟨h1, h2⟩
    · cases h1
    · obtain ⟨l, xs, q1, q2⟩ := e.ow h2
      exact ⟨l, xs, by rw [List.getElem?_set_ne (fun z => h1 z.symm)]; exact q1, q2⟩
  ne := fun {n1 n2 ds es l} h1 h2 h3 h4 => by
    rcases get_set h1 with ⟨_, z, _⟩ | ⟨a1, a2⟩
    · cases z
    rcases get_set h2 with ⟨_, z, _⟩ | ⟨b1, b2⟩
    · cases z
    rw [List.getElem?_set_ne (fun z => a1 z.symm)] at h3
    rw [List.getElem?_set_ne (fun z => b1 z.symm)] at h4
    exact e.ne a2 b2 h3 h4
theorem EnvR.set_no (e : EnvR K B H s r) {n : Nat} {o : Option V} : EnvR K B H (s.set n o) (r.set n .no) where
  i := e.i
  tb := e.tb
  len := by rw [List.length_set, List.length_set, e.len]
  im := fun {m d'} h' => by
    rcases get_set h' with ⟨rfl, h1, h2⟩ | ⟨h1, h2⟩
    · cases h1
    · obtain ⟨w, q1, q2⟩ := e.im h2
      exact ⟨w, by rw [List.getElem?_set_ne (fun z => h1 z.symm)]; exact q1, q2⟩
  ow := fun {m ds} h' => by
    rcases get_set h' with ⟨rfl, h1, h2⟩ | ⟨h1, h2⟩
    · cases h1
    · obtain ⟨l, xs, q1, q2⟩ := e.ow h2
      exact ⟨l, xs, by rw [List.getElem?_set_ne (fun z => h1 z.symm)]; exact q1, q2⟩
  ne := fun {n1 n2 ds es l} h1 h2 h3 h4 => by
    rcases get_set h1 with ⟨_, z, _⟩ | ⟨a1, a2⟩
    · cases z
    rcases get_set h2 with ⟨_, z, _⟩ | ⟨b1, b2⟩
    · cases z
    rw [List.getElem?_set_ne (fun z => a1 z.symm)] at h3
    rw [List.getElem?_set_ne (fun z => b1 z.symm)] at h4
    exact e.ne a2 b2 h3 h4
/-- a new own list, at l -/
theorem EnvR.set_ow (e : EnvR K B H s r) (x : Stp B H B' H') {n : Nat} {l : Addr} {xs : List V} {ds : List PyData} (hn : H l = none) (hl : H' l = some (.lst xs)) (hb : B' l = none) (hd : DpAll K B' xs ds) :
    EnvR K B' H' (s.set n (some (.ref l))) (r.set n (.ow ds)) where
  i := x.i
  tb := x.tb e.tb
  len := by rw [List.length_set, List.length_set, e.len]
  im := fun {m d'} h' => by
    rcases get_set h' with ⟨rfl, h1, h2⟩ | ⟨h1, h2⟩
    · cases h1
    · obtain ⟨w, q1, q2⟩ := e.im h2
      exact ⟨w, by rw [List.getElem?_set_ne (fun z => h1 z.symm)]; exact q1, dp_mono x.b _ _ q2⟩
  ow := fun {m es} h' => by
    rcases get_set h' with ⟨rfl, h1, h2⟩ | ⟨h1, h2⟩
    · cases h1
      exact ⟨l, xs, by rw [List.getElem?_set_self (by rw [e.len]; exact h2)], hl, hd, hb⟩
    · obtain ⟨l', ys, q1, q2⟩ := (e.mono x).ow h2
      exact ⟨l', ys, by rw [List.getElem?_set_ne (fun z => h1 z.symm)]; exact q1, q2⟩
  ne := fun {n1 n2 ds1 ds2 l'} h1 h2 h3 h4 => by
    rcases get_set h1 with ⟨rfl, z, a2⟩ | ⟨a1, a2⟩
    · rcases get_set h2 with ⟨rfl, z2, b2⟩ | ⟨b1, b2⟩
      · rfl
      · rw [List.getElem?_set_self (by rw [e.len]; exact a2)] at h3
        cases h3
        rw [List.getElem?_set_ne (fun z => b1 z.symm)] at h4
        obtain ⟨l2, ys, q1, q2, _⟩ := e.ow b2
        rw [h4] at q1; cases q1
        rw [hn] at q2; cases q2
    · rcases get_set h2 with ⟨rfl, z2, b2⟩ | ⟨b1, b2⟩
      · rw [List.getElem?_set_self (by rw [e.len]; exact b2)] at h4
        cases h4
        rw [List.getElem?_set_ne (fun z => a1 z.symm)] at h3
        obtain ⟨l2, ys, q1, q2, _⟩ := e.ow a2
        rw [h3] at q1; cases q1
        rw [hn] at q2; cases q2
      · rw [List.getElem?_set_ne (fun z => a1 z.symm)] at h3
        rw [List.getElem?_set_ne (fun z => b1 z.symm)] at h4
        exact e.ne a2 b2 h3 h4
/-- an own list is changed -/
theorem EnvR.mut (e : EnvR K B H s r) {n : Nat} {l : Addr} {xs : List V} {ds ds' : List PyData} (hr : r[n]? = some (.ow ds)) (hs : s[n]? = some (some (.ref l))) (hd : DpAll K B xs ds') :
    EnvR K B (upd H l (.lst xs)) s (r.set n (.ow ds')) where
  tb := by
    obtain ⟨l', ys, q1, q2, _, q4⟩ := e.ow hr
    rw [hs] at q1; cases q1
    exact e.tb.mutL q2
  i := by
    obtain ⟨l', ys, q1, _, _, q4⟩ := e.ow hr
    rw [hs] at q1; cases q1
    exact same_mut e.i q4
  len := by rw [List.length_set, e.len]
  im := fun {m d'} h' => by
    rcases get_set h' with ⟨rfl, h1, h2⟩ | ⟨h1, h2⟩
    · cases h1
    · exact e.im h2
  ow := fun {m es} h' => by
    obtain ⟨l0, ys0, q1, _, _, q4⟩ := e.ow hr
    rw [hs] at q1; cases q1
    rcases get_set h' with ⟨rfl, h1, h2⟩ | ⟨h1, h2⟩
    · cases h1
      exact ⟨l, xs, hs, upd_same, hd, q4⟩
    · obtain ⟨l', ys, p1, p2, p3, p4⟩ := e.ow h2
      have : l' ≠ l := fun z => by
        subst z
        exact h1 (e.ne h2 hr p1 hs)
      exact ⟨l', ys, p1, by rw [upd_ne this]; exact p2, p3, p4⟩
  ne := fun {n1 n2 ds1 ds2 l'} h1 h2 h3 h4 => by
    rcases get_set h1 with ⟨rfl, z, a2⟩ | ⟨a1, a2⟩
    · rcases get_set h2 with ⟨rfl, z2, b2⟩ | ⟨b1, b2⟩
      · rfl
      · exact e.ne hr b2 h3 h4
    · rcases get_set h2 with ⟨rfl, z2, b2⟩ | ⟨b1, b2⟩
      · exact e.ne a2 hr h3 h4
      · exact e.ne a2 b2 h3 h4
end
end Od

namespace Od
open PySem PySem.Spec PyProof.Rows L2

/-! ### what evaluates to what -/
abbrev Res := V → Hp → Hp → Prop
def Ev (K : PySem.W.Frag) (te : TE) (r : Rho) (R : Res) : Prop := ∀ B H s, EnvR K B H s r → ∀ Q : VK, (∀ v B' H', Stp B H B' H' → R v B' H' → Q v H') → te s H Q
def EvT (K : PySem.W.Frag) (tt : TT) (r : Rho) (b : Bool) : Prop := ∀ B H s, EnvR K B H s r → ∀ Q : Bool → Hp → Prop, (∀ B' H', Stp B H B' H' → Q b H') → tt s H Q
def EvA (K : PySem.W.Frag) (ta : TA) (r : Rho) (ds : List PyData) : Prop := ∀ B H s, EnvR K B H s r → ∀ Q : List V → Hp → Prop, (∀ vs B' H', Stp B H B' H' → DpAll K B' vs ds → Q vs H') → ta s H Q
/-- data that the base knows; data of the heap; a list or tuple; a list; a tuple -/
def rD (K : PySem.W.Frag) (d : PyData) : Res := fun v B _ => Dp K B v d
def rH (K : PySem.W.Frag) (d : PyData) : Res := fun v _ H => Dp K H v d
def rQ (K : PySem.W.Frag) (ds : List PyData) : Res := fun v B H => ∃ a xs, v = .ref a ∧ (SqL K H a xs ∨ SqT K H a xs) ∧ DpAll K B xs ds
def rL (K : PySem.W.Frag) (ds : List PyData) : Res := fun v B H => ∃ a xs, v = .ref a ∧ SqL K H a xs ∧ DpAll K B xs ds
/-- a list that is tracked -/
def rM (K : PySem.W.Frag) (ds : List PyData) : Res := fun v B H => ∃ a xs, v = .ref a ∧ H a = some (.lst xs) ∧ DpAll K B xs ds
abbrev EvD (K : PySem.W.Frag) (te : TE) (r : Rho) (d : PyData) : Prop := Ev K te r (rD K d)
abbrev EvH (K : PySem.W.Frag) (te : TE) (r : Rho) (d : PyData) : Prop := Ev K te r (rH K d)
abbrev EvQ (K : PySem.W.Frag) (te : TE) (r : Rho) (ds : List PyData) : Prop := Ev K te r (rQ K ds)
abbrev EvL (K : PySem.W.Frag) (te : TE) (r : Rho) (ds : List PyData) : Prop := Ev K te r (rL K ds)
abbrev EvM (K : PySem.W.Frag) (te : TE) (r : Rho) (ds : List PyData) : Prop := Ev K te r (rM K ds)
/-- a NEW list -/
def EvN (K : PySem.W.Frag) (te : TE) (r : Rho) (ds : List PyData) : Prop := ∀ B H s, EnvR K B H s r → ∀ Q : VK,
  (∀ l xs B' H', Stp B H B' H' → H l = none → H' l = some (.lst xs) → B' l = none → DpAll K B' xs ds → Q (.ref l) H') → te s H Q
def Mono (R : Res) : Prop := ∀ v B H B' H', Stp B H B' H' → R v B H → R v B' H'
section
variable {K : PySem.W.Frag} {r : Rho} {d e f : PyData} {ds es : List PyData} {te ta tb tc : TE} {R Ra Rb Rc : Res}
theorem mD : Mono (rD K d) := fun _ _ _ _ _ x h => dp_mono x.b _ _ h
theorem mH : Mono (rH K d) := fun _ _ _ _ _ x h => dp_monoG x.h _ _ h
theorem mQ : Mono (rQ K ds) := fun _ _ _ _ _ x ⟨a, xs, h1, h2, h3⟩ => ⟨a, xs, h1, h2.imp (fun z => x.h.seq z) (fun z => sqt_monoG x.h z), dpa_mono x.b _ _ h3⟩
theorem mL : Mono (rL K ds) := fun _ _ _ _ _ x ⟨a, xs, h1, h2, h3⟩ => ⟨a, xs, h1, x.h.seq h2, dpa_mono x.b _ _ h3⟩
theorem mM : Mono (rM K ds) := fun _ _ _ _ _ x ⟨a, xs, h1, h2, h3⟩ => ⟨a, xs, h1, x.h _ _ h2, dpa_mono x.b _ _ h3⟩
theorem Ev.imp (h : Ev K te r R) (q : ∀ v B H, Same B H → R v B H → Rc v B H) : Ev K te r Rc := fun B H s E Q k => h B H s E Q fun v B' H' x y => k v B' H' x (q v B' H' x.i y)
theorem EvD.toH (h : EvD K te r d) : EvH K te r d := h.imp fun _ _ _ i x => dp_mono i _ _ x
theorem EvD.toL (h : EvD K te r (.list ds)) : EvL K te r ds := h.imp fun v B H i x => by
  cases x with
  | lst hs ha => exact ⟨_, _, rfl, i.seq hs, ha⟩
theorem EvL.toQ (h : EvL K te r ds) : EvQ K te r ds := h.imp fun v B H i ⟨a, xs, h1, h2, h3⟩ => ⟨a, xs, h1, .inl h2, h3⟩
theorem EvL.toH (h : EvL K te r ds) : EvH K te r (.list ds) := h.imp fun v B H i ⟨a, xs, h1, h2, h3⟩ => by
  subst h1
  exact .lst h2 (dpa_mono i _ _ h3)
theorem EvD.toQ (h : EvD K te r (.tuple ds)) : EvQ K te r ds := h.imp fun v B H i x => by
  cases x with
  | tup hs ha => exact ⟨_, _, rfl, .inr (sqt_mono i hs), ha⟩
theorem EvN.toM (h : EvN K te r ds) : EvM K te r ds := fun B H s E Q k => h B H s E Q fun l xs B' H' x h1 h2 h3 h4 => k _ _ _ x ⟨l, xs, rfl, h2, h4⟩
theorem EvM.toL (h : EvM K te r ds) : EvL K te r ds := h.imp fun v B H i ⟨a, xs, h1, h2, h3⟩ => ⟨a, xs, h1, .of h2, h3⟩
theorem EvN.toD (h : EvN K te r ds) : EvD K te r (.list ds) := fun B H s E Q k => h B H s E Q fun l xs B' H' x h1 h2 h3 h4 => by
  have x' := x.take h1 h3 h2
  exact k _ _ _ x' (.lst (.of upd_same) (dpa_mono (same_new h3) _ _ h4))
theorem ev_im {n : Nat} (h : r[n]? = some (.im d)) : EvD K (tVar n) r d := fun B H s E Q k => by
  obtain ⟨v, h1, h2⟩ := E.im h
  exact ⟨v, h1, k v B H (.refl E.i) h2⟩
theorem ev_ow {n : Nat} (h : r[n]? = some (.ow ds)) : EvM K (tVar n) r ds := fun B H s E Q k => by
  obtain ⟨l, xs, h1, h2, h3, h4⟩ := E.ow h
  exact ⟨_, h1, k _ B H (.refl E.i) ⟨l, xs, rfl, h2, h3⟩⟩
theorem ev_int {i : Int} : EvD K (tC (.int i)) r (.int i) := fun B H s E Q k => k _ B H (.refl E.i) (.int i)
theorem ev_bl {b : Bool} : EvD K (tC (.bl b)) r (.bool b) := fun B H s E Q k => k _ B H (.refl E.i) (.bl b)
theorem ev_non : EvD K (tC .non) r .none := fun B H s E Q k => k _ B H (.refl E.i) .non
theorem ev_str {x : Str} : EvD K (tC (.str x)) r (.str x) := fun B H s E Q k => k _ B H (.refl E.i) (.str x)
/-- two operands, one operation on values -/
theorem ev_op {o : R2} (ma : Mono Ra) (ha : Ev K ta r Ra) (hb : Ev K tb r Rb) (ho : ∀ x y B H, Same B H → Ra x B H → Rb y B H → ∀ Q : VK, (∀ v B' H', Stp B H B' H' → Rc v B' H' → Q v H') → o x y H Q) : Ev K (tOp o ta tb) r Rc :=
  fun B H s E Q k => ha B H s E _ fun x B1 H1 x1 h1 => hb B1 H1 s (E.mono x1) _ fun y B2 H2 x2 h2 => ho x y B2 H2 x2.i (ma _ _ _ _ _ x2 h1) h2 Q fun v B3 H3 x3 h3 => k v B3 H3 ((x1.trans x2).trans x3) h3
/-- .. that leaves the heap as it is, giving flat data -/
theorem ev_flat {o : R2} (ma : Mono Ra) (ha : Ev K ta r Ra) (hb : Ev K tb r Rb) (ho : ∀ x y B H, Same B H → Ra x B H → Rb y B H → ∀ Q : VK, (∀ v, Dp K B v d → Q v H) → o x y H Q) : EvD K (tOp o ta tb) r d :=
  ev_op ma ha hb fun x y B H i h1 h2 Q k => ho x y B H i h1 h2 Q fun v h => k v B H (.refl i) h
theorem ev_un {o : V → Hp → VK → Prop} (ha : Ev K ta r Ra) (ho : ∀ x B H, Same B H → Ra x B H → ∀ Q : VK, (∀ v, Dp K B v d → Q v H) → o x H Q) : EvD K (tUn o ta) r d :=
  fun B H s E Q k => ha B H s E _ fun x B1 H1 x1 h1 => ho x B1 H1 x1.i h1 Q fun v h => k v B1 H1 x1 h
theorem ev_I0 {g : Int → Int → V} {i j : Int} (ha : EvD K ta r (.int i)) (hb : EvD K tb r (.int j)) (hg : ∀ B, Dp K B (g i j) d) : EvD K (tOp (rI0 g) ta tb) r d :=
  ev_flat mD ha hb fun x y B H _ h1 h2 Q k => by
    cases h1; cases h2
    exact ⟨i, j, rfl, rfl, k _ (hg B)⟩
theorem ev_I {C : Int → Int → Prop} {g : Int → Int → V} {i j : Int} (ha : EvD K ta r (.int i)) (hb : EvD K tb r (.int j)) (hc : C i j) (hg : ∀ B, Dp K B (g i j) d) : EvD K (tOp (rI C g) ta tb) r d :=
  ev_flat mD ha hb fun x y B H _ h1 h2 Q k => by
    cases h1; cases h2
    exact ⟨i, j, rfl, rfl, hc, k _ (hg B)⟩
/-! #### calls of built-ins, displays -/
theorem ea_nil : EvA K tNil r [] := fun B H s E Q k => k _ B H (.refl E.i) .nil
theorem ea_cons {t : TA} (ha : EvD K ta r d) (ht : EvA K t r ds) : EvA K (tCons ta t) r (d :: ds) := fun B H s E Q k =>
  ha B H s E _ fun x B1 H1 x1 h1 => ht B1 H1 s (E.mono x1) _ fun vs B2 H2 x2 h2 => k _ B2 H2 (x1.trans x2) (.cons (dp_mono x2.b _ _ h1) h2)
theorem ev_cb1 {o : List V → Hp → VK → Prop} (ha : Ev K ta r Ra) (ho : ∀ x B H, Same B H → Ra x B H → ∀ Q : VK, (∀ v B' H', Stp B H B' H' → Rc v B' H' → Q v H') → o [x] H Q) : Ev K (tCB o (tCons ta tNil)) r Rc :=
  fun B H s E Q k => ha B H s E _ fun x B1 H1 x1 h1 => ho x B1 H1 x1.i h1 Q fun v B2 H2 x2 h2 => k v B2 H2 (x1.trans x2) h2
theorem ev_cb1N {o : List V → Hp → VK → Prop} (ha : Ev K ta r Ra) (ho : ∀ x B H, Same B H → Ra x B H → ∀ Q : VK, (∀ l xs, H l = none → DpAll K B xs ds → Q (.ref l) (upd H l (.lst xs))) → o [x] H Q) : EvN K (tCB o (tCons ta tNil)) r ds :=
  fun B H s E Q k => ha B H s E _ fun x B1 H1 x1 h1 => ho x B1 H1 x1.i h1 Q fun l xs hl hd => k l xs B1 _ (x1.trans (.skip x1.i hl)) (x1.h.free hl) upd_same (x1.i.free hl) hd
theorem ev_cb2 {o : List V → Hp → VK → Prop} (ma : Mono Ra) (ha : Ev K ta r Ra) (hb : Ev K tb r Rb) (ho : ∀ x y B H, Same B H → Ra x B H → Rb y B H → ∀ Q : VK, (∀ v B' H', Stp B H B' H' → Rc v B' H' → Q v H') → o [x, y] H Q) : Ev K (tCB o (tCons ta (tCons tb tNil))) r Rc :=
  fun B H s E Q k => ha B H s E _ fun x B1 H1 x1 h1 => hb B1 H1 s (E.mono x1) _ fun y B2 H2 x2 h2 => ho x y B2 H2 x2.i (ma _ _ _ _ _ x2 h1) h2 Q fun v B3 H3 x3 h3 => k v B3 H3 ((x1.trans x2).trans x3) h3
theorem ev_len (ha : EvQ K ta r ds) : EvD K (tCB (fun xs H Q => ∃ p ys, xs = [V.ref p] ∧ (SqL K H p ys ∨ SqT K H p ys) ∧ Q (V.int ys.length) H) (tCons ta tNil)) r (.int ds.length) :=
  ev_cb1 ha fun x B H i ⟨a, xs, h1, h2, h3⟩ Q k => ⟨a, xs, by rw [h1], h2, k _ B H (.refl i) (by rw [dpa_len h3]; exact .int _)⟩
theorem ev_tupleL (ha : EvL K ta r ds) : EvD K (tCB (fun xs H Q => ∃ p ys, xs = [V.ref p] ∧ ((SqL K H p ys ∧ ∀ l, H l = none → Q (V.ref l) (upd H l (.tup ys))) ∨ (SqT K H p ys ∧ Q (V.ref p) H))) (tCons ta tNil)) r (.tuple ds) :=
  ev_cb1 ha fun x B H i ⟨a, xs, h1, h2, h3⟩ Q k => ⟨a, xs, by rw [h1], .inl ⟨h2, fun l hl => k _ _ _ (.new i hl) (.tup (.of upd_same) (dpa_mono (same_new (i.free hl)) _ _ h3))⟩⟩
theorem ev_list (ha : EvQ K ta r ds) : EvN K (tCB (fun xs H Q => ∃ p ys, xs = [V.ref p] ∧ (SqL K H p ys ∨ SqT K H p ys) ∧ ∀ l, H l = none → Q (V.ref l) (upd H l (.lst ys))) (tCons ta tNil)) r ds :=
  ev_cb1N ha fun x B H i ⟨a, xs, h1, h2, h3⟩ Q k => ⟨a, xs, by rw [h1], h2, fun l hl => k l xs hl h3⟩
theorem ev_tup {t : TA} (ht : EvA K t r ds) (hl : ds.length ≤ sizeLine) : EvD K (tTup t) r (.tuple ds) := fun B H s E Q k =>
  ht B H s E _ fun vs B1 H1 x1 h1 => ⟨by rw [dpa_len h1]; exact hl, fun p hp => k _ _ _ (x1.trans (.new x1.i hp)) (.tup (.of upd_same) (dpa_mono (same_new (x1.i.free hp)) _ _ h1))⟩
theorem ev_lst {t : TA} (ht : EvA K t r ds) (hl : ds.length ≤ sizeLine) : EvN K (tLst t) r ds := fun B H s E Q k =>
  ht B H s E _ fun vs B1 H1 x1 h1 => ⟨by rw [dpa_len h1]; exact hl, fun p hp => k p vs B1 _ (x1.trans (.skip x1.i hp)) (x1.h.free hp) upd_same (x1.i.free hp) h1⟩
theorem ev_min {ns : List Int} {m : Int} (ha : EvL K ta r (ns.map .int)) (hm : m ∈ ns) (hle : ∀ y ∈ ns, m ≤ y) : EvD K (tCB (rMin K) (tCons ta tNil)) r (.int m) :=
  ev_cb1 ha fun x B H i ⟨a, xs, h1, h2, h3⟩ Q k => ⟨a, ns, by rw [h1], by rw [← dpa_ints_inv h3]; exact h2, List.length_pos_of_mem hm, fun m' q1 q2 => by
    have : m' = m := Int.le_antisymm (q2 m hm) (hle m' q1)
    rw [this]
    exact k _ B H (.refl i) (.int _)⟩
theorem ev_all {bs : List Bool} (ha : EvL K ta r (bs.map .bool)) : EvD K (tCB (rAll K) (tCons ta tNil)) r (.bool (bs.all id)) :=
  ev_cb1 ha fun x B H i ⟨a, xs, h1, h2, h3⟩ Q k => ⟨a, bs, by rw [h1], by rw [← dpa_bls_inv h3]; exact h2, k _ B H (.refl i) (.bl _)⟩
theorem ev_min2 {i j : Int} (ha : EvD K ta r (.int i)) (hb : EvD K tb r (.int j)) : EvD K (tCB (fun xs H Q => ∃ i j, xs = [V.int i, V.int j] ∧ Q (V.int (if j < i then j else i)) H) (tCons ta (tCons tb tNil))) r (.int (if j < i then j else i)) :=
  ev_cb2 mD ha hb fun x y B H z h1 h2 Q k => by
    cases h1; cases h2
    exact ⟨i, j, rfl, k _ B H (.refl z) (.int _)⟩
theorem ev_max2 {i j : Int} (ha : EvD K ta r (.int i)) (hb : EvD K tb r (.int j)) : EvD K (tCB (fun xs H Q => ∃ i j, xs = [V.int i, V.int j] ∧ Q (V.int (if j > i then j else i)) H) (tCons ta (tCons tb tNil))) r (.int (if j > i then j else i)) :=
  ev_cb2 mD ha hb fun x y B H z h1 h2 Q k => by
    cases h1; cases h2
    exact ⟨i, j, rfl, k _ B H (.refl z) (.int _)⟩
theorem ev_int1b {b : Bool} (ha : EvD K ta r (.bool b)) : EvD K (tCB (fun xs H Q => (∃ i, xs = [V.int i] ∧ Q (V.int i) H) ∨ ∃ k, xs = [V.bl k] ∧ Q (V.int (if k then 1 else 0)) H) (tCons ta tNil)) r (.int (if b then 1 else 0)) :=
  ev_cb1 ha fun x B H i h1 Q k => by
    cases h1
    exact .inr ⟨b, rfl, k _ B H (.refl i) (.int _)⟩
/-! #### operations -/
theorem ev_eq (ha : EvH K ta r d) (hb : EvH K tb r e) (sd : SeqAt.shaped d = true) (se : SeqAt.shaped e = true) : EvD K (tOp (rEqD K) ta tb) r (.bool (PyData.eqv d e)) :=
  ev_flat mH ha hb fun x y B H i h1 h2 Q k => ⟨d, e, h1, h2, sd, se, k _ (.bl _)⟩
theorem ev_ne (ha : EvH K ta r d) (hb : EvH K tb r e) (sd : SeqAt.shaped d = true) (se : SeqAt.shaped e = true) : EvD K (tOp (rNeD K) ta tb) r (.bool (!PyData.eqv d e)) :=
  ev_flat mH ha hb fun x y B H i h1 h2 Q k => ⟨d, e, h1, h2, sd, se, k _ (.bl _)⟩
theorem inV_ints {i : Int} : ∀ ns : List Int, inV (.int i) (ns.map V.int) = decide (i ∈ ns)
  | [] => by simp [inV]
  | n :: ns => by
    have ih := inV_ints (i := i) ns
    unfold inV at ih ⊢
    rw [List.map_cons, List.any_cons, ih]
    have : eqV (V.int n) (V.int i) = decide (i = n) := by
      by_cases h : i = n
      · subst h; simp [eqV]
      · have h2 : n ≠ i := fun z => h z.symm
        simp [eqV, h, h2]
    rw [this]
    by_cases h : i = n <;> simp [h]
theorem flat_ints : ∀ ns : List Int, (ns.map V.int).all flatV = true
  | [] => rfl
  | n :: ns => by rw [List.map_cons, List.all_cons, flat_ints ns]; rfl
theorem ev_in {i : Int} {ns : List Int} (ha : EvD K ta r (.int i)) (hb : EvQ K tb r (ns.map .int)) : EvD K (tOp (rIn K false) ta tb) r (.bool (decide (i ∈ ns))) :=
  ev_flat mD ha hb fun x y B H z h1 ⟨a, xs, q1, q2, q3⟩ Q k => by
    cases h1
    have e := dpa_ints_inv q3
    subst e
    exact ⟨a, _, q1, q2, rfl, flat_ints ns, k _ (by rw [inV_ints]; exact .bl _)⟩
theorem ev_nin {i : Int} {ns : List Int} (ha : EvD K ta r (.int i)) (hb : EvQ K tb r (ns.map .int)) : EvD K (tOp (rIn K true) ta tb) r (.bool (!decide (i ∈ ns))) :=
  ev_flat mD ha hb fun x y B H z h1 ⟨a, xs, q1, q2, q3⟩ Q k => by
    cases h1
    have e := dpa_ints_inv q3
    subst e
    exact ⟨a, _, q1, q2, rfl, flat_ints ns, k _ (by rw [inV_ints]; exact .bl _)⟩
theorem dpa_at {H : Hp} {xs : List V} {i : Int} (h : DpAll K H xs ds) (ha : atI ds i = some d) : ∃ v, atI xs i = some v ∧ Dp K H v d := by
  unfold atI at ha ⊢
  rw [dpa_len h]
  cases q : ixN ds.length i with
  | none => rw [q] at ha; cases ha
  | some j =>
    rw [q] at ha
    exact dpa_get h ha
theorem ev_ixL {i : Int} (ha : EvL K ta r ds) (hb : EvD K tb r (.int i)) (hi : atI ds i = some d) : EvD K (tOp (rIxL K) ta tb) r d :=
  ev_flat mL ha hb fun x y B H z ⟨a, xs, q1, q2, q3⟩ h2 Q k => by
    cases h2
    obtain ⟨v, h3, h4⟩ := dpa_at q3 hi
    exact ⟨a, xs, i, v, q1, rfl, q2, h3, k _ h4⟩
theorem ev_ixT {i : Int} (ha : EvD K ta r (.tuple ds)) (hb : EvD K tb r (.int i)) (hi : atI ds i = some d) : EvD K (tOp (rIxT K) ta tb) r d :=
  ev_flat mD ha hb fun x y B H z h1 h2 Q k => by
    cases h2
    cases h1 with
    | tup q2 q3 =>
      obtain ⟨v, h3, h4⟩ := dpa_at q3 hi
      exact ⟨_, _, i, v, rfl, rfl, sqt_mono z q2, h3, k _ h4⟩
theorem dpa_nil_iff {H : Hp} {xs : List V} (h : DpAll K H xs ds) : xs = [] ↔ ds = [] := by
  cases h with
  | nil => exact ⟨fun _ => rfl, fun _ => rfl⟩
  | cons _ _ => exact ⟨fun z => (nomatch z), fun z => (nomatch z)⟩
theorem ev_catT (ha : EvD K ta r (.tuple ds)) (hb : EvD K tb r (.tuple es)) (hl : ds.length + es.length ≤ sizeLine) : EvD K (tOp (rCatA K) ta tb) r (.tuple (ds ++ es)) :=
  ev_op mD ha hb fun x y B H z h1 h2 Q k => by
    cases h1 with
    | tup q2 q3 =>
      cases h2 with
      | tup p2 p3 =>
        refine ⟨_, _, _, _, rfl, rfl, sqt_mono z q2, sqt_mono z p2, by rw [dpa_len q3, dpa_len p3]; exact hl, fun e => ?_, fun _ e => ?_, fun _ _ p hp => ?_⟩
        · refine k _ B H (.refl z) ?_
          rw [(dpa_nil_iff q3).mp e, List.nil_append]
          exact .tup p2 p3
        · refine k _ B H (.refl z) ?_
          rw [(dpa_nil_iff p3).mp e, List.append_nil]
          exact .tup q2 q3
        · exact k _ _ _ (.new z hp) (.tup (.of upd_same) (dpa_mono (same_new (z.free hp)) _ _ (dpa_app q3 p3)))
theorem ev_catL (ha : EvM K ta r ds) (hb : EvM K tb r es) (hl : ds.length + es.length ≤ sizeLine) : EvN K (tOp rCat ta tb) r (ds ++ es) := fun B H s E Q k =>
  ha B H s E _ fun x B1 H1 x1 h1 => hb B1 H1 s (E.mono x1) _ fun y B2 H2 x2 h2 => by
    obtain ⟨a, xs, rfl, q2, q3⟩ := mM _ _ _ _ _ x2 h1
    obtain ⟨b, ys, rfl, p2, p3⟩ := h2
    exact ⟨a, b, xs, ys, rfl, rfl, q2, p2, by rw [dpa_len q3, dpa_len p3]; exact hl, fun p hp => k p _ B2 _ ((x1.trans x2).trans (.skip x2.i hp)) ((x1.trans x2).h.free hp) upd_same (x2.i.free hp) (dpa_app q3 p3)⟩
/-- a part of a list, as cutV takes it -/
def cutD (xs : List PyData) (lo hi : Option Int) : List PyData := (xs.drop (HT.sIx xs.length 0 lo)).take (HT.sIx xs.length xs.length hi - HT.sIx xs.length 0 lo)
theorem dpa_cut {H : Hp} {xs : List V} {lo hi : Option Int} (h : DpAll K H xs ds) : DpAll K H (cutV xs lo hi) (cutD ds lo hi) := by
  unfold cutV cutD
  rw [dpa_len h]
  exact dpa_take _ (dpa_drop _ h)
/-- a slice's part -/
def EvO (K : PySem.W.Frag) (to : TO) (r : Rho) (o : Option Int) : Prop := ∀ B H s, EnvR K B H s r → ∀ Q : Option Int → Hp → Prop, (∀ B' H', Stp B H B' H' → Q o H') → to s H Q
theorem eo_none : EvO K tNoPart r none := fun B H s E Q k => k B H (.refl E.i)
theorem eo_some {i : Int} (h : EvD K te r (.int i)) : EvO K (tPart te) r (some i) := fun B H s E Q k => h B H s E _ fun v B1 H1 x1 h1 => by
  cases h1
  exact ⟨i, rfl, k B1 H1 x1⟩
theorem ev_slT {tl th : TO} {lo hi : Option Int} (ha : EvD K ta r (.tuple ds)) (hl : EvO K tl r lo) (hh : EvO K th r hi) : EvD K (tSl (rSlA K) ta tl th) r (.tuple (cutD ds lo hi)) := fun B H s E Q k =>
  ha B H s E _ fun x B1 H1 x1 h1 => hl B1 H1 s (E.mono x1) _ fun B2 H2 x2 => hh B2 H2 s (E.mono (x1.trans x2)) _ fun B3 H3 x3 => by
    have x := (x1.trans x2).trans x3
    cases h1 with
    | tup q2 q3 =>
      have q3' := dpa_mono (x2.trans x3).b _ _ q3
      have q2' := sqt_mono (x2.trans x3).b q2
      refine ⟨_, _, rfl, sqt_mono x3.i q2', fun e => ?_, fun _ p hp => ?_⟩
      · refine k _ B3 H3 x ?_
        have : cutD ds lo hi = ds := by
          unfold cutD
          rw [dpa_len q3] at e
          rw [e.1, e.2, List.drop_zero, Nat.sub_zero, List.take_length]
        rw [this]
        exact .tup q2' q3'
      · exact k _ _ _ (x.trans (.new x3.i hp)) (.tup (.of upd_same) (dpa_mono (same_new (x3.i.free hp)) _ _ (dpa_cut q3')))
theorem ev_slL {tl th : TO} {lo hi : Option Int} (ha : EvL K ta r ds) (hl : EvO K tl r lo) (hh : EvO K th r hi) : EvN K (tSl (rSlL K) ta tl th) r (cutD ds lo hi) := fun B H s E Q k =>
  ha B H s E _ fun x B1 H1 x1 h1 => hl B1 H1 s (E.mono x1) _ fun B2 H2 x2 => hh B2 H2 s (E.mono (x1.trans x2)) _ fun B3 H3 x3 => by
    have x := (x1.trans x2).trans x3
    obtain ⟨a, xs, rfl, q2, q3⟩ := mL _ _ _ _ _ (x2.trans x3) h1
    exact ⟨a, xs, rfl, q2, fun p hp => k p _ B3 _ (x.trans (.skip x3.i hp)) (x.h.free hp) upd_same (x3.i.free hp) (dpa_cut q3)⟩
/-! #### tests -/
theorem et_test {b : Bool} (h : EvD K te r (.bool b)) : EvT K (tTest te) r b := fun B H s E Q k => h B H s E _ fun v B1 H1 x1 h1 => by
  cases h1
  exact ⟨b, rfl, k B1 H1 x1⟩
theorem et_B {b : Bool} (h : EvD K te r (.bool b)) : EvT K (tB te) r b := fun B H s E Q k => h B H s E _ fun v B1 H1 x1 h1 => by
  cases h1
  exact ⟨b, rfl, k B1 H1 x1⟩
theorem et_truth (h : EvQ K te r ds) : EvT K (fun σ H Q => te σ H fun x H' => ∃ k, TruV K x H' k ∧ Q k H') r (!ds.isEmpty) := fun B H s E Q k => h B H s E _ fun v B1 H1 x1 ⟨a, xs, h1, h2, h3⟩ => by
  subst h1
  have e : xs.isEmpty = ds.isEmpty := by cases h3 <;> rfl
  refine ⟨!ds.isEmpty, ?_, k B1 H1 x1⟩
  rcases h2 with h2 | h2
  · exact .inl ⟨xs, h2, by rw [e]⟩
  · exact .inr (.inl ⟨xs, h2, by rw [e]⟩)
theorem et_not {t : TT} {b : Bool} (h : EvT K t r b) : EvT K (tNot t) r (!b) := fun B H s E Q k => h B H s E _ fun B1 H1 x1 => k B1 H1 x1
theorem et_and {t u : TT} {a b : Bool} (h1 : EvT K t r a) (h2 : a = true → EvT K u r b) : EvT K (tAnd t u) r (a && b) := fun B H s E Q k => h1 B H s E _ fun B1 H1 x1 => by
  cases a with
  | true => exact h2 rfl B1 H1 s (E.mono x1) _ fun B2 H2 x2 => k B2 H2 (x1.trans x2)
  | false => exact k B1 H1 x1
theorem et_or {t u : TT} {a b : Bool} (h1 : EvT K t r a) (h2 : a = false → EvT K u r b) : EvT K (tOr t u) r (a || b) := fun B H s E Q k => h1 B H s E _ fun B1 H1 x1 => by
  cases a with
  | true => exact k B1 H1 x1
  | false => exact h2 rfl B1 H1 s (E.mono x1) _ fun B2 H2 x2 => k B2 H2 (x1.trans x2)
theorem et_is {t : TT} {a b : Bool} (h : EvT K t r a) (e : a = b) : EvT K t r b := e ▸ h
theorem ev_is (h : EvD K te r d) (q : d = e) : EvD K te r e := q ▸ h
theorem ev_andV {a b : Bool} (h1 : EvD K ta r (.bool a)) (h2 : a = true → EvD K tb r (.bool b)) : EvD K (tAndV ta tb) r (.bool (a && b)) := fun B H s E Q k => h1 B H s E _ fun v B1 H1 x1 q1 => by
  cases q1
  refine ⟨a, rfl, ?_⟩
  cases a with
  | true => exact h2 rfl B1 H1 s (E.mono x1) _ fun v B2 H2 x2 q2 => k v B2 H2 (x1.trans x2) q2
  | false => exact k _ B1 H1 x1 (.bl false)
theorem ev_orV {a b : Bool} (h1 : EvD K ta r (.bool a)) (h2 : a = false → EvD K tb r (.bool b)) : EvD K (tOrV ta tb) r (.bool (a || b)) := fun B H s E Q k => h1 B H s E _ fun v B1 H1 x1 q1 => by
  cases q1
  refine ⟨a, rfl, ?_⟩
  cases a with
  | true => exact k _ B1 H1 x1 (.bl true)
  | false => exact h2 rfl B1 H1 s (E.mono x1) _ fun v B2 H2 x2 q2 => k v B2 H2 (x1.trans x2) q2
theorem ev_notV {a : Bool} (h1 : EvD K ta r (.bool a)) : EvD K (tNotV ta) r (.bool (!a)) := fun B H s E Q k => h1 B H s E _ fun v B1 H1 x1 q1 => by
  cases q1
  exact ⟨a, rfl, k _ B1 H1 x1 (.bl _)⟩
/-! #### a def's promise: F tells its value -/
def spR (K : PySem.W.Frag) (F : List PyData → PyData → Prop) : Sp := fun vs H Q _ => ∃ B ds d, Same B H ∧ Tb B H ∧ DpAll K B vs ds ∧ F ds d ∧ ∀ v B' H', Stp B H B' H' → Dp K B' v d → Q v H'
theorem ev_call {F : List PyData → PyData → Prop} {X : XK} {t : TA} (ht : EvA K t r ds) (hF : F ds d) : EvD K (tCall (spR K F) [] X t) r d := fun B H s E Q k =>
  ht B H s E _ fun vs B1 H1 x1 h1 => ⟨B1, ds, d, x1.i, x1.tb E.tb, by rw [List.append_nil]; exact h1, hF, fun v B2 H2 x2 h2 => k v B2 H2 (x1.trans x2) h2⟩
/-- .. of a def that may be refused: F its value, or R: the error of the class at C -/
def spX (K : PySem.W.Frag) (C : Addr) (F : List PyData → PyData → Prop) (R : List PyData → Prop) : Sp := fun vs H Q X => ∃ B ds, Same B H ∧ Tb B H ∧ DpAll K B vs ds ∧
  ((∃ d, F ds d ∧ ∀ v B' H', Stp B H B' H' → Dp K B' v d → Q v H') ∨ (R ds ∧ ∀ H', Gro H H' → X (.ref C) none H'))
theorem ev_callX {F : List PyData → PyData → Prop} {R : List PyData → Prop} {C : Addr} {X : XK} {t : TA} (ht : EvA K t r ds) (hF : F ds d) : EvD K (tCall (spX K C F R) [] X t) r d := fun B H s E Q k =>
  ht B H s E _ fun vs B1 H1 x1 h1 => ⟨B1, ds, x1.i, x1.tb E.tb, by rw [List.append_nil]; exact h1, .inl ⟨d, hF, fun v B2 H2 x2 h2 => k v B2 H2 (x1.trans x2) h2⟩⟩
end
end Od

namespace Od
open PySem PySem.Spec PyProof.Rows L2

/-! ### statements -/
structure EnvS (K : PySem.W.Frag) (B0 H0 B H : Hp) (s : L2.St) (r : Rho) : Prop where
  st : Stp B0 H0 B H
  en : EnvR K B H s r
  ow : ∀ {n : Nat} {ds : List PyData} {l : Addr}, r[n]? = some (.ow ds) → s[n]? = some (some (.ref l)) → H0 l = none
/-- what is wanted behind a statement -/
structure EndD where
  nx : Rho → Prop
  rt : PyData → Prop
  bk : Rho → Prop := fun _ => False
  ct : Rho → Prop := fun _ => False
structure Sat (K : PySem.W.Frag) (B0 H0 : Hp) (W : EndD) (D : Ends) : Prop where
  nx : ∀ r B H s, W.nx r → EnvS K B0 H0 B H s r → D.nx s H
  rt : ∀ d v B H, W.rt d → Stp B0 H0 B H → Dp K B v d → D.rt v H
  bk : ∀ r B H s, W.bk r → EnvS K B0 H0 B H s r → D.bk s H
  ct : ∀ r B H s, W.ct r → EnvS K B0 H0 B H s r → D.ct s H
def WP (K : PySem.W.Frag) (H0 : Hp) (ts : TS) (r : Rho) (W : EndD) : Prop := ∀ B0 B H s D, EnvS K B0 H0 B H s r → Sat K B0 H0 W D → ts D s H
section
variable {K : PySem.W.Frag} {H0 : Hp} {r : Rho} {d e f : PyData} {ds es : List PyData} {te ta tb tc : TE} {t u : TS} {W : EndD}
theorem EnvS.mono {B0 B H B' H' : Hp} {s : L2.St} (e : EnvS K B0 H0 B H s r) (x : Stp B H B' H') : EnvS K B0 H0 B' H' s r := ⟨e.st.trans x, e.en.mono x, e.ow⟩
theorem EnvS.set_im {B0 B H : Hp} {s : L2.St} (e : EnvS K B0 H0 B H s r) {n : Nat} {v : V} (h : Dp K B v d) : EnvS K B0 H0 B H (s.set n (some v)) (r.set n (.im d)) := ⟨e.st, e.en.set_im h, fun {m ds l} h1 h2 => by
  rcases get_set h1 with ⟨_, z, _⟩ | ⟨a1, a2⟩
  · cases z
  rw [List.getElem?_set_ne (fun z => a1 z.symm)] at h2
  exact e.ow a2 h2⟩
theorem EnvS.set_ow {B0 B H B' H' : Hp} {s : L2.St} (e : EnvS K B0 H0 B H s r) (x : Stp B H B' H') {n : Nat} {l : Addr} {xs : List V} (hn : H l = none) (hl : H' l = some (.lst xs)) (hb : B' l = none) (hd : DpAll K B' xs ds) :
    EnvS K B0 H0 B' H' (s.set n (some (.ref l))) (r.set n (.ow ds)) := ⟨e.st.trans x, e.en.set_ow x hn hl hb hd, fun {m es l'} h1 h2 => by
  rcases get_set h1 with ⟨rfl, z, a2⟩ | ⟨a1, a2⟩
  · rw [List.getElem?_set_self (by rw [e.en.len]; exact a2)] at h2
    cases h2
    exact e.st.h.free hn
  rw [List.getElem?_set_ne (fun z => a1 z.symm)] at h2
  exact e.ow a2 h2⟩
theorem EnvS.mut {B0 B H : Hp} {s : L2.St} (e : EnvS K B0 H0 B H s r) {n : Nat} {l : Addr} {xs : List V} {ds ds' : List PyData} (hr : r[n]? = some (.ow ds)) (hs : s[n]? = some (some (.ref l))) (hd : DpAll K B xs ds') :
    EnvS K B0 H0 B (upd H l (.lst xs)) s (r.set n (.ow ds')) := by
  obtain ⟨l', ys, q1, q2, _, q4⟩ := e.en.ow hr
  rw [hs] at q1; cases q1
  refine ⟨e.st.mut (e.ow hr hs) q4 q2, e.en.mut hr hs hd, fun {m es l'} h1 h2 => ?_⟩
  rcases get_set h1 with ⟨rfl, z, a2⟩ | ⟨a1, a2⟩
  · exact e.ow hr h2
  · exact e.ow a2 h2
theorem WP.imp {W' : EndD} (h : WP K H0 t r W) (h1 : ∀ r, W.nx r → W'.nx r) (h2 : ∀ d, W.rt d → W'.rt d) (h3 : ∀ r, W.bk r → W'.bk r) (h4 : ∀ r, W.ct r → W'.ct r) : WP K H0 t r W' := fun B0 B H s D E S =>
  h B0 B H s D E ⟨fun r B H s q => S.nx r B H s (h1 r q), fun d v B H q => S.rt d v B H (h2 d q), fun r B H s q => S.bk r B H s (h3 r q), fun r B H s q => S.ct r B H s (h4 r q)⟩
theorem wp_seq (h : WP K H0 t r { W with nx := fun r' => WP K H0 u r' W }) : WP K H0 (tSeq t u) r W := fun B0 B H s D E S =>
  h B0 B H s { D with nx := u D } E ⟨fun r' B' H' s' q E' => q B0 B' H' s' D E' S, S.rt, S.bk, S.ct⟩
theorem wp_is {r' : Rho} (h : WP K H0 t r' W) (e : r' = r) : WP K H0 t r W := e ▸ h
theorem wp_next (h : W.nx r) : WP K H0 tNext r W := fun B0 B H s D E S => S.nx r B H s h E
theorem wp_brk (h : W.bk r) : WP K H0 tBreak r W := fun B0 B H s D E S => S.bk r B H s h E
theorem wp_cont (h : W.ct r) : WP K H0 tCont r W := fun B0 B H s D E S => S.ct r B H s h E
theorem wp_ret (h : EvD K te r d) (q : W.rt d) : WP K H0 (tRet te) r W := fun B0 B H s D E S =>
  h B H s E.en _ fun v B' H' x hv => S.rt d v B' H' q (E.st.trans x) hv
theorem wp_if {c : TT} {b : Bool} (h : EvT K c r b) (h1 : b = true → WP K H0 t r W) (h2 : b = false → WP K H0 u r W) : WP K H0 (tIfS c t u) r W := fun B0 B H s D E S =>
  h B H s E.en _ fun B' H' x => by
    cases b with
    | true => exact h1 rfl B0 B' H' s D (E.mono x) S
    | false => exact h2 rfl B0 B' H' s D (E.mono x) S
/-- both ways lead to r2 -/
theorem wp_join {c : TT} {b : Bool} (r2 : Rho) (h : EvT K c r b) (h1 : b = true → WP K H0 t r { W with nx := fun x => x = r2 }) (h2 : b = false → WP K H0 u r { W with nx := fun x => x = r2 }) (q : W.nx r2) : WP K H0 (tIfS c t u) r W :=
  wp_if h (fun e => (h1 e).imp (fun _ z => z ▸ q) (fun _ z => z) (fun _ z => z) (fun _ z => z)) (fun e => (h2 e).imp (fun _ z => z ▸ q) (fun _ z => z) (fun _ z => z) (fun _ z => z))
/-- a target takes a value -/
def GS (K : PySem.W.Frag) (g : TG) (d : PyData) (r r2 : Rho) : Prop := ∀ v B0 H0 B H s, EnvS K B0 H0 B H s r → Dp K B v d → ∀ Q : L2.St → Hp → Prop, (∀ s2, EnvS K B0 H0 B H s2 r2 → Q s2 H) → g v s H Q
theorem gs_name {i : Nat} : GS K (gName i) d r (r.set i (.im d)) := fun v B0 H0 B H s E h Q k => k _ (E.set_im h)
theorem gs_tup2 {i j : Nat} : GS K (gTup K 2 (gCons (gName i) (gCons (gName j) gNil))) (.tuple [d, e]) r ((r.set i (.im d)).set j (.im e)) := fun v B0 H0 B H s E h Q k => by
  cases h with
  | tup q2 q3 =>
    cases q3 with
    | cons a1 q3 =>
      cases q3 with
      | cons a2 q3 =>
        cases q3
        exact ⟨_, _, rfl, sqt_mono E.en.i q2, rfl, _, _, rfl, _, _, rfl, rfl, k _ ((E.set_im a1).set_im a2)⟩
theorem wp_asg {g : TG} {r2 : Rho} (h : EvD K te r d) (hg : GS K g d r r2) (q : W.nx r2) : WP K H0 (tAsg te g) r W := fun B0 B H s D E S =>
  h B H s E.en _ fun v B' H' x hv => hg v B0 H0 B' H' s (E.mono x) hv _ fun s2 E2 => S.nx r2 B' H' s2 q E2
theorem wp_set {i : Nat} (h : EvD K te r d) (q : W.nx (r.set i (.im d))) : WP K H0 (tAsg te (gName i)) r W := wp_asg h gs_name q
/-- name = a new list, the name's own -/
theorem wp_setN {i : Nat} (h : EvN K te r ds) (q : W.nx (r.set i (.ow ds))) : WP K H0 (tAsg te (gName i)) r W := fun B0 B H s D E S =>
  h B H s E.en _ fun l xs B' H' x h1 h2 h3 h4 => S.nx _ B' H' _ q (E.set_ow x h1 h2 h3 h4)
theorem wp_append {n : Nat} (hr : r[n]? = some (.ow ds)) (h : EvD K te r d) (hz : ds.length < sizeLine) (q : W.nx (r.set n (.ow (ds ++ [d])))) :
    WP K H0 (tDrop (tBM K "list" rAppend (tVar n) (tCons te tNil))) r W := fun B0 B H s D E S => by
  obtain ⟨l, xs, h1, h2, h3, h4⟩ := E.en.ow hr
  refine ⟨.ref l, h1, .inl ⟨rfl, xs, .of h2⟩, h B H s E.en _ fun v B' H' x hv => ?_⟩
  have E' := E.mono x
  have h3' := dpa_mono x.b _ _ h3
  exact ⟨l, xs, v, rfl, rfl, x.h _ _ h2, by rw [dpa_len h3]; exact hz, S.nx _ B' _ s q (E'.mut hr h1 (dpa_app h3' (.cons hv .nil)))⟩
theorem wp_setitem {n j : Nat} {k : Int} {ti : TE} (hr : r[n]? = some (.ow ds)) (h : EvD K te r d) (hi : EvD K ti r (.int k)) (hk : ixN ds.length k = some j) (q : W.nx (r.set n (.ow (ds.set j d)))) :
    WP K H0 (tAsg te (gSub (tVar n) ti rSetL)) r W := fun B0 B H s D E S =>
  h B H s E.en _ fun v B1 H1 x1 hv => by
    obtain ⟨l, xs, h1, h2, h3, h4⟩ := (E.mono x1).en.ow hr
    refine ⟨.ref l, h1, hi B1 H1 s (E.mono x1).en _ fun w B2 H2 x2 hw => ?_⟩
    cases hw
    have h3' := dpa_mono x2.b _ _ h3
    exact ⟨l, xs, k, j, rfl, rfl, x2.h _ _ h2, by rw [dpa_len h3]; exact hk, S.nx _ B2 _ s q (((E.mono x1).mono x2).mut hr h1 (dpa_set (dp_mono x2.b _ _ hv) j h3'))⟩
/-- an own list is given to what follows as data -/
theorem wp_free {n : Nat} (hr : r[n]? = some (.ow ds)) (h : WP K H0 t (r.set n (.im (.list ds))) W) : WP K H0 t r W := fun B0 B H s D E S => by
  obtain ⟨l, xs, h1, h2, h3, h4⟩ := E.en.ow hr
  refine h B0 (upd B l (.lst xs)) H s D ⟨E.st.take (E.ow hr h1) h4 h2, ?_, fun {m es l'} q1 q2 => ?_⟩ S
  · have hn : n < r.length := (List.getElem?_eq_some_iff.mp hr).1
    refine ⟨fun a o e => ?_, ⟨by rw [upd_ne (fun z => E.en.tb.t.elim fun ps w => by rw [z, h2] at w; cases w.1)]; exact E.en.tb.b, E.en.tb.t⟩, by rw [List.length_set]; exact E.en.len, fun {m d'} h' => ?_, fun {m es} h' => ?_, fun {n1 n2 d1 d2 l'} q1 q2 q3 q4 => ?_⟩
    · by_cases z : a = l
      · subst z; rw [upd_same] at e; cases e; exact h2
      · rw [upd_ne z] at e; exact E.en.i _ _ e
    · rcases get_set h' with ⟨rfl, e1, e2⟩ | ⟨e1, e2⟩
      · cases e1
        exact ⟨_, h1, .lst (.of upd_same) (dpa_mono (same_new h4) _ _ h3)⟩
      · obtain ⟨w, p1, p2⟩ := E.en.im e2
        exact ⟨w, p1, dp_mono (same_new h4) _ _ p2⟩
    · rcases get_set h' with ⟨rfl, e1, e2⟩ | ⟨e1, e2⟩
      · cases e1
      · obtain ⟨l', ys, p1, p2, p3, p4⟩ := E.en.ow e2
        have : l' ≠ l := fun z => e1 (E.en.ne e2 hr p1 (by rw [z]; exact h1))
        exact ⟨l', ys, p1, p2, dpa_mono (same_new h4) _ _ p3, by rw [upd_ne this]; exact p4⟩
    · rcases get_set q1 with ⟨_, z, _⟩ | ⟨a1, a2⟩
      · cases z
      rcases get_set q2 with ⟨_, z, _⟩ | ⟨b1, b2⟩
      · cases z
      exact E.en.ne a2 b2 q3 q4
  · rcases get_set q1 with ⟨_, z, _⟩ | ⟨a1, a2⟩
    · cases z
    exact E.ow a2 q2

/-! ### loops -/
/-- what a loop walks, as data -/
structure Walks (K : PySem.W.Frag) (J : It) (B0 : Hp) (xs : List PyData) : Prop where
  go : ∀ i B H, Same B0 B → Same B H → i < xs.length → J.go i H
  yld : ∀ i B H x H', Same B0 B → Same B H → J.yld i H x H' → i < xs.length → ∃ d B', xs[i]? = some d ∧ Stp B H B' H' ∧ Dp K B' x d
  stop : ∀ B H, Same B0 B → Same B H → J.stop xs.length H
def EvI (K : PySem.W.Frag) (wi : TI) (r : Rho) (xs : List PyData) : Prop := ∀ B H s, EnvR K B H s r → ∀ R : It → Hp → Prop, (∀ J B' H', Stp B H B' H' → Walks K J B' xs → R J H') → wi s H R
theorem ei_tup (h : EvD K te r (.tuple ds)) : EvI K (iTup K te) r ds := fun B H s E R k => h B H s E _ fun v B1 H1 x1 hv => by
  cases hv with
  | @tup a xs _ q2 q3 =>
    refine ⟨a, rfl, ⟨xs, sqt_mono x1.i q2⟩, k _ B1 H1 x1 ⟨fun i B' H' e1 e2 hi => ?_, fun i B' H' x H'' e1 e2 y hi => ?_, fun B' H' e1 e2 => ⟨xs, sqt_mono (e1.trans e2) q2, by rw [dpa_len q3]; exact Nat.le_refl _⟩⟩⟩
    · obtain ⟨v, p1, p2⟩ := dpa_get q3 (List.getElem?_eq_getElem hi)
      exact ⟨xs, v, sqt_mono (e1.trans e2) q2, p1⟩
    · obtain ⟨rfl, y⟩ := y
      obtain ⟨v, p1, p2⟩ := dpa_get q3 (List.getElem?_eq_getElem hi)
      have := y xs (sqt_mono (e1.trans e2) q2)
      rw [p1] at this
      cases this
      exact ⟨_, B', List.getElem?_eq_getElem hi, .refl e2, dp_mono e1 _ _ p2⟩
theorem ei_list (h : EvD K te r (.list ds)) : EvI K (iList K te) r ds := fun B H s E R k => h B H s E _ fun v B1 H1 x1 hv => by
  cases hv with
  | @lst a xs _ q2 q3 =>
    refine ⟨a, rfl, ⟨xs, x1.i.seq q2⟩, k _ B1 H1 x1 ⟨fun i B' H' e1 e2 hi => ?_, fun i B' H' x H'' e1 e2 y hi => ?_, fun B' H' e1 e2 => ⟨xs, (e1.trans e2).seq q2, by rw [dpa_len q3]; exact Nat.le_refl _⟩⟩⟩
    · obtain ⟨v, p1, p2⟩ := dpa_get q3 (List.getElem?_eq_getElem hi)
      exact ⟨xs, v, (e1.trans e2).seq q2, p1⟩
    · obtain ⟨rfl, y⟩ := y
      obtain ⟨v, p1, p2⟩ := dpa_get q3 (List.getElem?_eq_getElem hi)
      have := y xs ((e1.trans e2).seq q2)
      rw [p1] at this
      cases this
      exact ⟨_, B', List.getElem?_eq_getElem hi, .refl e2, dp_mono e1 _ _ p2⟩
/-- lo, lo + 1, .., n of them -/
def irange (lo : Int) (n : Nat) : List Int := (List.range n).map fun (i : Nat) => lo + (i : Int)
theorem irange_len {lo : Int} {n : Nat} : (irange lo n).length = n := by unfold irange; rw [List.length_map, List.length_range]
theorem irange_get {lo : Int} {n i : Nat} (h : i < n) : (irange lo n)[i]? = some (lo + (i : Int)) := by
  unfold irange
  rw [List.getElem?_map, List.getElem?_range h]; rfl
theorem irange_mem {lo : Int} {n : Nat} {x : Int} : x ∈ irange lo n ↔ lo ≤ x ∧ x < lo + (n : Int) := by
  unfold irange
  rw [List.mem_map]
  constructor
  · rintro ⟨i, hi, rfl⟩
    have := List.mem_range.mp hi
    omega
  · rintro ⟨h1, h2⟩
    exact ⟨(x - lo).toNat, List.mem_range.mpr (by omega), by omega⟩
theorem walks_rng {lo : Int} {n : Nat} {B : Hp} : Walks K (Itr lo n) B ((irange lo n).map .int) where
  go := fun i B' H e1 e2 hi => by rw [List.length_map, irange_len] at hi; exact hi
  yld := fun i B' H x H' e1 e2 y hi => by
    rw [List.length_map, irange_len] at hi
    obtain ⟨rfl, rfl⟩ := y
    exact ⟨.int (lo + i), B', by rw [List.getElem?_map, irange_get hi]; rfl, .refl e2, .int _⟩
  stop := fun B' H e1 e2 => by rw [List.length_map, irange_len]; exact Nat.le_refl n
theorem ei_rng1 {ta : TA} {j : Int} (h : EvA K ta r [.int j]) (h1 : -(2 ^ 62) ≤ j) (h2 : j < 2 ^ 62) : EvI K (iRng1 ta) r ((irange 0 j.toNat).map .int) := fun B H s E R k => h B H s E _ fun vs B1 H1 x1 hv => by
  cases hv with
  | cons a b =>
    cases a; cases b
    exact ⟨j, rfl, h1, h2, k _ B1 H1 x1 walks_rng⟩
theorem ei_rng2 {ta : TA} {i j : Int} (h : EvA K ta r [.int i, .int j]) (h1 : -(2 ^ 62) ≤ i) (h2 : i < 2 ^ 62) (h3 : -(2 ^ 62) ≤ j) (h4 : j < 2 ^ 62) : EvI K (iRng2 ta) r ((irange i (j - i).toNat).map .int) := fun B H s E R k => h B H s E _ fun vs B1 H1 x1 hv => by
  cases hv with
  | cons a b =>
    cases a
    cases b with
    | cons a b =>
      cases a; cases b
      exact ⟨i, j, rfl, ⟨h1, h2, h3, h4⟩, k _ B1 H1 x1 walks_rng⟩
theorem EnvS.base {B0 B1 H1 B H : Hp} {s s' : L2.St} {r' : Rho} (e : EnvS K B0 H0 B1 H1 s r) (e' : EnvS K B1 H0 B H s' r') : EnvS K B0 H0 B H s' r' :=
  ⟨⟨e.st.b.trans e'.st.b, e'.st.h, e'.st.i, fun a n m => e'.st.f a (e.st.f a n m) m⟩, e'.en, e'.ow⟩
theorem EnvS.rebase {B0 B H : Hp} {s : L2.St} (e : EnvS K B0 H0 B H s r) : EnvS K B H0 B H s r := ⟨⟨Same.refl _, e.st.h, e.st.i, fun _ n _ => n⟩, e.en, e.ow⟩
theorem Sat.rebase {B0 B1 H1 : Hp} {s : L2.St} {D : Ends} (e : EnvS K B0 H0 B1 H1 s r) (S : Sat K B0 H0 W D) : Sat K B1 H0 W D :=
  ⟨fun r' B H s' q E => S.nx r' B H s' q (e.base E), fun d v B H q x h => S.rt d v B H q ⟨e.st.b.trans x.b, x.h, x.i, fun a n m => x.f a (e.st.f a n m) m⟩ h, fun r' B H s' q E => S.bk r' B H s' q (e.base E), fun r' B H s' q E => S.ct r' B H s' q (e.base E)⟩
theorem wp_for {wi : TI} {g : TG} {xs : List PyData} (hi : EvI K wi r xs) (I : Nat → Rho → Prop) (h0 : I 0 r)
    (hs : ∀ i d r1, xs[i]? = some d → I i r1 → ∃ r2, GS K g d r1 r2 ∧ WP K H0 t r2 { W with nx := I (i + 1), ct := I (i + 1), bk := W.nx }) (hd : ∀ r1, I xs.length r1 → W.nx r1) : WP K H0 (tFor wi g t) r W := fun B0 B H s D E S =>
  hi B H s E.en _ fun J B1 H1 x1 wk => by
    have E1 := E.mono x1
    have S1 := S.rebase E1
    refine ⟨fun i m s' H' => m = xs.length - i ∧ i ≤ xs.length ∧ ∃ r' B', I i r' ∧ EnvS K B1 H0 B' H' s' r', ⟨xs.length, by simp, Nat.zero_le _, r, B1, h0, E1.rebase⟩, ?_⟩
    rintro i m s' H' ⟨rfl, hle, r', B', hI, E'⟩
    by_cases hlt : i < xs.length
    · refine .inr ⟨wk.go i B' H' E'.st.b E'.st.i hlt, fun s2 H2 => ∃ r2 B2, I (i + 1) r2 ∧ EnvS K B1 H0 B2 H2 s2 r2, fun s2 H2 ⟨r2, B2, q1, q2⟩ => ⟨xs.length - (i + 1), by omega, rfl, hlt, r2, B2, q1, q2⟩, fun x H2 y => ?_⟩
      obtain ⟨d, B2, q1, q2, q3⟩ := wk.yld i B' H' x H2 E'.st.b E'.st.i y hlt
      obtain ⟨r2, hg, hw⟩ := hs i d r' q1 hI
      refine hg x B1 H0 B2 H2 s' (E'.mono q2) q3 _ fun s2 E2 => ?_
      exact hw B1 B2 H2 s2 _ E2 ⟨fun r3 B3 H3 s3 q E3 => ⟨r3, B3, q, E3⟩, S1.rt, fun r3 B3 H3 s3 q E3 => S1.nx r3 B3 H3 s3 q E3, fun r3 B3 H3 s3 q E3 => ⟨r3, B3, q, E3⟩⟩
    · have e : i = xs.length := by omega
      subst e
      exact .inl ⟨wk.stop B' H' E'.st.b E'.st.i, S1.nx r' B' H' s' (hd r' hI) E'⟩
/-- while: the invariant with its measure -/
theorem wp_while {c : TT} (I : Nat → Rho → Prop) (m0 : Nat) (h0 : I m0 r) (hs : ∀ m r1, I m r1 → ∃ b, EvT K c r1 b ∧ (b = true → WP K H0 t r1 { W with nx := fun r2 => ∃ m', m' < m ∧ I m' r2, ct := fun r2 => ∃ m', m' < m ∧ I m' r2, bk := W.nx }) ∧ (b = false → W.nx r1)) :
    WP K H0 (tWhile c t) r W := fun B0 B H s D E S => by
  refine ⟨fun m s' H' => ∃ r' B', I m r' ∧ EnvS K B0 H0 B' H' s' r', ⟨m0, r, B, h0, E⟩, ?_⟩
  rintro m s' H' ⟨r', B', hI, E'⟩
  obtain ⟨b, hc, h1, h2⟩ := hs m r' hI
  refine hc B' H' s' E'.en _ fun B2 H2 x2 => ?_
  cases b with
  | true =>
    refine ⟨fun s3 H3 => ∃ m', m' < m ∧ ∃ r3 B3, I m' r3 ∧ EnvS K B0 H0 B3 H3 s3 r3, fun s3 H3 ⟨m', l, q⟩ => ⟨m', l, q⟩, ?_⟩
    exact h1 rfl B0 B2 H2 s' _ (E'.mono x2) ⟨fun r3 B3 H3 s3 ⟨m', l, q⟩ E3 => ⟨m', l, r3, B3, q, E3⟩, S.rt, fun r3 B3 H3 s3 q E3 => S.nx r3 B3 H3 s3 q E3, fun r3 B3 H3 s3 ⟨m', l, q⟩ E3 => ⟨m', l, r3, B3, q, E3⟩⟩
  | false => exact S.nx r' B2 H2 s' (h2 rfl) (E'.mono x2)

/-! ### comprehensions -/
def wipeR (r : Rho) : List Nat → Rho
  | [] => r
  | v :: vs => (wipeR r vs).set v .no
theorem EnvR.wipe {B H : Hp} {s : L2.St} (e : EnvR K B H s r) : ∀ vs : List Nat, EnvR K B H (L2.wipe s vs) (wipeR r vs)
  | [] => e
  | v :: vs => (EnvR.wipe e vs).set_no
theorem wipe_set {s : L2.St} {i : Nat} {o : Option V} : ∀ {vs : List Nat}, i ∈ vs → L2.wipe (s.set i o) vs = L2.wipe s vs
  | [], h => by cases h
  | v :: vs, h => by
    by_cases hv : i ∈ vs
    · show (L2.wipe (s.set i o) vs).set v none = (L2.wipe s vs).set v none
      rw [wipe_set hv]
    · have e : i = v := by
        rcases List.mem_cons.mp h with h | h
        · exact h
        · exact absurd h hv
      subst e
      show (L2.wipe (s.set i o) vs).set i none = (L2.wipe s vs).set i none
      have : ∀ {ws : List Nat}, i ∉ ws → (L2.wipe (s.set i o) ws) = (L2.wipe s ws).set i o := by
        intro ws
        induction ws with
        | nil => intro _; rfl
        | cons w ws ih =>
          intro hw
          have h1 : i ≠ w := fun z => hw (by rw [z]; exact List.mem_cons_self)
          have h2 : i ∉ ws := fun z => hw (List.mem_cons_of_mem _ z)
          show (L2.wipe (s.set i o) ws).set w none = ((L2.wipe s ws).set w none).set i o
          rw [ih h2, List.set_comm _ _ h1]
      rw [this hv, List.set_set]
theorem wipe_idem {s : L2.St} : ∀ vs : List Nat, L2.wipe (L2.wipe s vs) vs = L2.wipe s vs
  | [] => rfl
  | v :: vs => by
    show (L2.wipe ((L2.wipe s vs).set v none) vs).set v none = (L2.wipe s vs).set v none
    by_cases hv : v ∈ vs
    · rw [wipe_set hv, wipe_idem vs]
    · have : ∀ {ws : List Nat} {s' : L2.St}, v ∉ ws → (L2.wipe (s'.set v none) ws) = (L2.wipe s' ws).set v none := by
        intro ws s'
        induction ws with
        | nil => intro _; rfl
        | cons w ws ih =>
          intro hw
          have h1 : v ≠ w := fun z => hw (by rw [z]; exact List.mem_cons_self)
          have h2 : v ∉ ws := fun z => hw (List.mem_cons_of_mem _ z)
          show (L2.wipe (s'.set v none) ws).set w none = ((L2.wipe s' ws).set w none).set v none
          rw [ih h2, List.set_comm _ _ h1]
      rw [this hv, List.set_set, wipe_idem vs]
/-- a comprehension's target takes a value -/
def GC (K : PySem.W.Frag) (vs : List Nat) (g : TG) (d : PyData) (r r2 : Rho) : Prop := ∀ v B H s, EnvR K B H s r → Dp K B v d → ∀ Q : L2.St → Hp → Prop, (∀ s2, EnvR K B H s2 r2 → L2.wipe s2 vs = L2.wipe s vs → Q s2 H) → g v s H Q
theorem gc_name {vs : List Nat} {i : Nat} (hi : i ∈ vs) : GC K vs (gName i) d r (r.set i (.im d)) := fun v B H s E h Q k => k _ (E.set_im h) (wipe_set hi)
theorem gc_tup2 {vs : List Nat} {i j : Nat} (hi : i ∈ vs) (hj : j ∈ vs) : GC K vs (gTup K 2 (gCons (gName i) (gCons (gName j) gNil))) (.tuple [d, e]) r ((r.set i (.im d)).set j (.im e)) := fun v B H s E h Q k => by
  cases h with
  | tup q2 q3 =>
    cases q3 with
    | cons a1 q3 =>
      cases q3 with
      | cons a2 q3 =>
        cases q3
        exact ⟨_, _, rfl, sqt_mono E.i q2, rfl, _, _, rfl, _, _, rfl, rfl, k _ ((E.set_im a1).set_im a2) (by rw [wipe_set hj, wipe_set hi])⟩
theorem et_yes : EvT K tYes r true := fun B H s E Q k => k B H (.refl E.i)
theorem fm_take {α β : Type} {f : α → Option β} : ∀ {l : List α} {i : Nat} {x : α}, l[i]? = some x → (l.take (i + 1)).filterMap f = (l.take i).filterMap f ++ (f x).toList := fun {l i x} h => by
  rw [List.take_add_one, h, List.filterMap_append]
  congr 1
theorem ev_lc {α : Type} {wi : TI} {g : TG} {tt : TT} {vs : List Nat} (as : List α) (c : α → PyData) (f : α → Option PyData) (hi : EvI K wi r (as.map c)) (hz : as.length ≤ sizeLine)
    (hs : ∀ a ∈ as, ∃ r2, GC K vs g (c a) (wipeR r vs) r2 ∧ ∃ b, EvT K tt r2 b ∧ ((b = false ∧ f a = none) ∨ (b = true ∧ ∃ y, f a = some y ∧ EvD K te r2 y))) : EvN K (tLc wi g tt te vs) r (as.filterMap f) := fun B H s E Q k =>
  hi B H s E _ fun J B1 H1 x1 wk => fun D hD => by
    have hBD : B1 D = none := x1.i.free hD
    refine ⟨fun i m H' => m = as.length - i ∧ i ≤ as.length ∧ ∃ B' acc, Stp B1 H1 B' H' ∧ B' D = none ∧ H' D = some (.lst acc) ∧ DpAll K B' acc ((as.take i).filterMap f),
      ⟨as.length, by simp, Nat.zero_le _, B1, [], .skip x1.i hD, hBD, upd_same, .nil⟩, ?_⟩
    rintro i m H' ⟨rfl, hle, B', acc, st, hb, hh, hd⟩
    have hlen : (as.map c).length = as.length := List.length_map _
    by_cases hlt : i < as.length
    · refine .inr ⟨wk.go i B' H' st.b st.i (by rw [hlen]; exact hlt), fun H2 => ∃ B2 acc2, Stp B1 H1 B2 H2 ∧ B2 D = none ∧ H2 D = some (.lst acc2) ∧ DpAll K B2 acc2 ((as.take (i + 1)).filterMap f), fun H2 ⟨B2, acc2, q⟩ => ⟨as.length - (i + 1), by omega, rfl, hlt, B2, acc2, q⟩, fun x H2 y => ?_⟩
      obtain ⟨d, B2, q1, q2, q3⟩ := wk.yld i B' H' x H2 st.b st.i y (by rw [hlen]; exact hlt)
      have ha : as[i]? = some as[i] := List.getElem?_eq_getElem hlt
      rw [List.getElem?_map, ha] at q1
      have q1' : c as[i] = d := Option.some.inj q1
      subst q1'
      obtain ⟨r2, hg, b, hb2, hc⟩ := hs as[i] (List.getElem_mem hlt)
      have st2 := st.trans q2
      have E2 := ((E.mono x1).mono st2).wipe vs
      refine hg x B2 H2 _ E2 q3 _ fun s2 E3 hw => ⟨by rw [hw, wipe_idem], ?_⟩
      refine hb2 B2 H2 s2 E3 _ fun B3 H3 x3 => ?_
      have hD2 : H2 D = some (.lst acc) := q2.h _ _ hh
      have hD3 : H3 D = some (.lst acc) := x3.h _ _ hD2
      have nn : H2 D ≠ none := by rw [hD2]; exact fun z => nomatch z
      have hB2 : B2 D = none := q2.f D hb (by rw [hh]; exact fun z => nomatch z)
      have hB3 : B3 D = none := x3.f D hB2 nn
      have hd3 := dpa_mono (q2.b.trans x3.b) _ _ hd
      have st3 := st2.trans x3
      rcases hc with ⟨rfl, hf⟩ | ⟨rfl, y, hf, hy⟩
      · refine ⟨B3, acc, st3, hB3, hD3, ?_⟩
        rw [fm_take ha, hf]
        show DpAll K B3 acc (_ ++ [])
        rw [List.append_nil]
        exact hd3
      · refine hy B3 H3 s2 (E3.mono x3) _ fun v B4 H4 x4 hv => ?_
        have hD4 : H4 D = some (.lst acc) := x4.h _ _ hD3
        have hB4 : B4 D = none := x4.f D hB3 (by rw [hD3]; exact fun z => nomatch z)
        refine ⟨acc, hD4, ?_, B4, _, (st3.trans x4).mut hD hB4 hD4, hB4, upd_same, ?_⟩
        · rw [dpa_len hd]
          have : ((as.take i).filterMap f).length ≤ i := Nat.le_trans (List.length_filterMap_le _ _) (by rw [List.length_take]; exact Nat.min_le_left _ _)
          omega
        · rw [fm_take ha, hf]
          exact dpa_app (dpa_mono x4.b _ _ hd3) (.cons hv .nil)
    · have e : i = as.length := by omega
      subst e
      rw [List.take_length] at hd
      exact .inl ⟨by have := wk.stop B' H' st.b st.i; rw [hlen] at this; exact this, k D acc B' H' (x1.trans st) (x1.h.free hD) hh hb hd⟩
theorem fm_all {α : Type} {y : α → PyData} : ∀ as : List α, as.filterMap (fun a => some (y a)) = as.map y
  | [] => rfl
  | a :: as => by rw [List.filterMap_cons_some (f := fun a => some (y a)) (b := y a) rfl, fm_all as]; rfl
theorem fm_if {α : Type} {p : α → Bool} {y : α → PyData} : ∀ as : List α, as.filterMap (fun a => if p a then some (y a) else none) = (as.filter p).map y
  | [] => rfl
  | a :: as => by
    cases h : p a with
    | true => rw [List.filterMap_cons_some (b := y a) (by simp [h]), fm_if as, List.filter_cons_of_pos h]; rfl
    | false => rw [List.filterMap_cons_none (by simp [h]), fm_if as, List.filter_cons_of_neg (by simp [h])]
/-- [y for a in as] -/
theorem ev_lcM {α : Type} {wi : TI} {g : TG} {vs : List Nat} {xs : List PyData} (hi : EvI K wi r xs) (as : List α) (c : α → PyData) (y : α → PyData) (hx : xs = as.map c) (hz : as.length ≤ sizeLine)
    (hs : ∀ a ∈ as, ∃ r2, GC K vs g (c a) (wipeR r vs) r2 ∧ EvD K te r2 (y a)) : EvN K (tLc wi g tYes te vs) r (as.map y) := by
  subst hx
  rw [← fm_all as]
  exact ev_lc as c _ hi hz fun a ha => let ⟨r2, h1, h2⟩ := hs a ha; ⟨r2, h1, true, et_yes, .inr ⟨rfl, _, rfl, h2⟩⟩
/-- [y for a in as if p] -/
theorem ev_lcF {α : Type} {wi : TI} {g : TG} {tt : TT} {vs : List Nat} {xs : List PyData} (hi : EvI K wi r xs) (as : List α) (c : α → PyData) (p : α → Bool) (y : α → PyData) (hx : xs = as.map c) (hz : as.length ≤ sizeLine)
    (hs : ∀ a ∈ as, ∃ r2, GC K vs g (c a) (wipeR r vs) r2 ∧ EvT K tt r2 (p a) ∧ (p a = true → EvD K te r2 (y a))) : EvN K (tLc wi g tt te vs) r ((as.filter p).map y) := by
  subst hx
  rw [← fm_if as]
  exact ev_lc as c _ hi hz fun a ha => by
    obtain ⟨r2, h1, h2, h3⟩ := hs a ha
    refine ⟨r2, h1, p a, h2, ?_⟩
    cases q : p a with
    | true => exact .inr ⟨rfl, _, by simp, h3 q⟩
    | false => exact .inl ⟨rfl, by simp⟩

theorem ev_is2 (h : EvN K te r ds) (q : ds = es) : EvN K te r es := q ▸ h
/-! ### a def's body -/
def st0 (n : Nat) (ds : List PyData) : Rho := ds.map .im ++ List.replicate (n - ds.length) .no
theorem dpa_start {H : Hp} {N : List Str} {vs : List V} (h : DpAll K H vs ds) {B : Hp} (i : Same H B) (tb : Tb H B) : EnvR K H B (L2.start N vs) (st0 N.length ds) := by
  have hl := dpa_len h
  refine ⟨i, tb, ?_, fun {n d} e => ?_, fun {n es} e => ?_, fun {n m d1 d2 l} e1 e2 => ?_⟩
  · unfold L2.start st0
    rw [List.length_append, List.length_append, List.length_map, List.length_map, List.length_replicate, List.length_replicate, hl]
  · unfold st0 at e
    rw [List.getElem?_append] at e
    split at e
    · rename_i hn
      rw [List.length_map] at hn
      rw [List.getElem?_map] at e
      cases q : ds[n]? with
      | none => rw [q] at e; cases e
      | some d' =>
        rw [q] at e
        cases e
        obtain ⟨v, h1, h2⟩ := dpa_get h q
        refine ⟨v, ?_, h2⟩
        unfold L2.start
        rw [List.getElem?_append_left (by rw [List.length_map, hl]; exact hn), List.getElem?_map, h1]
        rfl
    · rw [List.getElem?_replicate] at e
      split at e <;> cases e
  · exfalso
    unfold st0 at e
    rw [List.getElem?_append] at e
    split at e
    · rw [List.getElem?_map] at e
      cases q : ds[n]? with
      | none => rw [q] at e; cases e
      | some d' => rw [q] at e; cases e
    · rw [List.getElem?_replicate] at e
      split at e <;> cases e
  · exfalso
    unfold st0 at e1
    rw [List.getElem?_append] at e1
    split at e1
    · rw [List.getElem?_map] at e1
      cases q : ds[n]? with
      | none => rw [q] at e1; cases e1
      | some d' => rw [q] at e1; cases e1
    · rw [List.getElem?_replicate] at e1
      split at e1 <;> cases e1
theorem env_start {H B : Hp} {N : List Str} {vs : List V} (h : DpAll K B vs ds) (i : Same B H) (tb : Tb B H) : EnvS K B H B H (L2.start N vs) (st0 N.length ds) := by
  have E := dpa_start (N := N) h i tb
  refine ⟨Stp.refl i, E, fun {n es l} e => ?_⟩
  exfalso
  unfold st0 at e
  rw [List.getElem?_append] at e
  split at e
  · rw [List.getElem?_map] at e
    cases q : ds[n]? with
    | none => rw [q] at e; cases e
    | some d' => rw [q] at e; cases e
  · rw [List.getElem?_replicate] at e
    split at e <;> cases e
theorem spR_body {F : List PyData → PyData → Prop} {N : List Str} {vs : List V} {H : Hp} {Q : VK} {X : XK} (h : spR K F vs H Q X)
    (hb : ∀ ds d H0, F ds d → WP K H0 t (st0 N.length ds) { nx := fun _ => False, rt := fun d' => d' = d }) : t { nx := fun _ H' => Q .non H', rt := Q } (L2.start N vs) H := by
  obtain ⟨B, ds, d, i, tb, hv, hF, k⟩ := h
  exact hb ds d H hF B B H _ _ (env_start hv i tb) ⟨fun _ _ _ _ z => z.elim, fun d' v B' H' e x y => k v B' H' x (e ▸ y), fun _ _ _ _ z => z.elim, fun _ _ _ _ z => z.elim⟩
theorem spR_len {F : List PyData → PyData → Prop} {vs : List V} {H : Hp} {Q : VK} {X : XK} {n : Nat} (h : spR K F vs H Q X) (hF : ∀ ds d, F ds d → ds.length = n) : vs.length = n := by
  obtain ⟨B, ds, d, i, tb, hv, h1, k⟩ := h
  rw [dpa_len hv, hF ds d h1]
theorem spX_body {C : Addr} {F : List PyData → PyData → Prop} {R : List PyData → Prop} {N : List Str} {vs : List V} {H : Hp} {Q : VK} {X : XK} (h : spX K C F R vs H Q X)
    (h1 : ∀ ds d, F ds d → WP K H t (st0 N.length ds) { nx := fun _ => False, rt := fun d' => d' = d })
    (h2 : ∀ ds, R ds → (∀ H', Gro H H' → X (.ref C) none H') → WP K H t (st0 N.length ds) { nx := fun _ => False, rt := fun _ => False }) : t { nx := fun _ H' => Q .non H', rt := Q } (L2.start N vs) H := by
  obtain ⟨B, ds, i, tb, hv, h⟩ := h
  rcases h with ⟨d, hF, k⟩ | ⟨hR, k⟩
  · exact h1 ds d hF B B H _ _ (env_start hv i tb) ⟨fun _ _ _ _ z => z.elim, fun d' v B' H' e x y => k v B' H' x (e ▸ y), fun _ _ _ _ z => z.elim, fun _ _ _ _ z => z.elim⟩
  · exact h2 ds hR k B B H _ _ (env_start hv i tb) ⟨fun _ _ _ _ z => z.elim, fun _ _ _ _ z => z.elim, fun _ _ _ _ z => z.elim, fun _ _ _ _ z => z.elim⟩
theorem spX_len {C : Addr} {F : List PyData → PyData → Prop} {R : List PyData → Prop} {vs : List V} {H : Hp} {Q : VK} {X : XK} {n : Nat} (h : spX K C F R vs H Q X) (hF : ∀ ds d, F ds d → ds.length = n) (hR : ∀ ds, R ds → ds.length = n) : vs.length = n := by
  obtain ⟨B, ds, i, tb, hv, h⟩ := h
  rcases h with ⟨d, h1, k⟩ | ⟨h1, k⟩
  · rw [dpa_len hv, hF ds d h1]
  · rw [dpa_len hv, hR ds h1]
/-- raise of the def's own error -/
theorem wp_raise {C : Addr} {X : XK} (h : ∀ H', Gro H0 H' → X (.ref C) none H') : WP K H0 (fun _ σ H => X (.ref C) none H) r W := fun B0 B H s D E S => h H E.st.h
/-! ### where a def stands, and that it keeps its promise -/
structure DefAt (K : PySem.W.Frag) (mg : Str → Option Value) (x : Str) (st : Stmt) (f : Addr) (fd : FuncData) : Prop where
  F : Fun K x x st f fd
  m : mg x = some (.ref f)
structure CalOk (P : Program) (w : World) (K : PySem.W.Frag) (mg : Str → Option Value) (base : Heap) (CX : CXT) (k : Nat) (x : Str) (ps : List Str) (sp : Sp) : Prop where
  ex : ∃ f fd, FnOk P w K mg base CX k f fd ps sp ∧ mg x = some (.ref f) ∧ PySem.W.keepIn K (.ref f) = true ∧ Binds K fd ps []
end
section
variable {X : Cx}
theorem pe_callC {k : Nat} {x : Str} {ps : List Str} {sp : Sp} {p pos : Pos} {e : Expr} {es : List Expr} {t : TA} (C : CalOk X.prog X.w X.K X.mg X.base CX0 k x ps sp) (hr : Room k X.A) (hg : Gl X x)
    (ha : PA X (e :: es) t) (hdb : (x == ("__debug__" : Str)) = false := by decide) (he : starEach (e :: es) X.env = (false, eval e X.env) :: starEach es X.env := by rfl) (hpl : (backTo pos (starEach es X.env)).any (·.1) = false := by rfl) :
    PE X (.Call (.Name x p) (e :: es) [] pos) (tCall sp [] E0 t) := by
  obtain ⟨f, fd, F, m, kp, b⟩ := C.ex
  exact pe_call F hr hg m kp b .nil pass0 ha hdb he hpl
theorem pe_callL {k : Nat} {x : Str} {ps : List Str} {sp : Sp} {p pos : Pos} {e : Expr} {es : List Expr} {t : TA} (C : CalOk X.prog X.w X.K X.mg X.base (L2.CX X.prog X.w) k x ps sp) (hr : Room k X.A) (hg : Gl X x)
    (ha : PA X (e :: es) t) (hdb : (x == ("__debug__" : Str)) = false := by decide) (he : starEach (e :: es) X.env = (false, eval e X.env) :: starEach es X.env := by rfl) (hpl : (backTo pos (starEach es X.env)).any (·.1) = false := by rfl) :
    PE X (.Call (.Name x p) (e :: es) [] pos) (tCall sp [] E0 t) := by
  obtain ⟨f, fd, F, m, kp, b⟩ := C.ex
  exact pe_call F hr hg m kp b .nil passL ha hdb he hpl
end
end Od

namespace Od
open PySem PySem.Spec PyProof.Rows L2

theorem boot_len : bootBuiltins "len" = some (.builtin "len") := by decide +kernel
theorem boot_sorted : bootBuiltins "sorted" = some (.builtin "sorted") := by decide +kernel
theorem boot_min : bootBuiltins "min" = some (.builtin "min") := by decide +kernel
theorem boot_max : bootBuiltins "max" = some (.builtin "max") := by decide +kernel
theorem boot_all : bootBuiltins "all" = some (.builtin "all") := by decide +kernel
theorem boot_isinstance : bootBuiltins "isinstance" = some (.builtin "isinstance") := by decide +kernel
theorem boot_tuple : bootBuiltins "tuple" = some (.type "tuple") := by decide +kernel
theorem boot_list : bootBuiltins "list" = some (.type "list") := by decide +kernel
theorem boot_int : bootBuiltins "int" = some (.type "int") := by decide +kernel
theorem boot_bool : bootBuiltins "bool" = some (.type "bool") := by decide +kernel
theorem boot_ValueError : bootBuiltins "ValueError" = some (.type "ValueError") := by decide +kernel
/-- the built-ins' names are not the module's -/
structure Bt (mg : Str → Option Value) : Prop where
  len_ : mg "len" = none
  sorted_ : mg "sorted" = none
  min_ : mg "min" = none
  max_ : mg "max" = none
  all_ : mg "all" = none
  isinstance_ : mg "isinstance" = none
  tuple_ : mg "tuple" = none
  list_ : mg "list" = none
  int_ : mg "int" = none
  bool_ : mg "bool" = none
  range_ : mg "range" = none
  enumerate_ : mg "enumerate" = none
  reversed_ : mg "reversed" = none
  ValueError_ : mg "ValueError" = none
/-- the error's class -/
structure Ze (K : PySem.W.Frag) (mg : Str → Option Value) (C : Addr) : Prop where
  xC : PySem.W.excIn K C [.type "ValueError", .type "Exception", .type "BaseException", .type "object"] "ValueError.__new__" = true
  gC : mg "NotNow" = some (.ref C)
  kC : PySem.W.keepIn K (.ref C) = true
  bC : PySem.W.subIn K (.ref C) (.type "BaseException") = some true
  tC : PySem.W.typeIn K (.ref C) = some (.type "type")
section
variable {X : Cx}
theorem op_mulB : OpR X (binaryOp .Mult) (rI IntMulOk fun i j => .int (i * j)) := opI fun _ _ _ _ _ _ _ hc q => mul_int q hc
theorem op_pow2 : OpR X (binaryOp .Pow) (rI (fun a n => 0 ≤ n ∧ (Builtin.Int.intBits a : Int) * n ≤ 2 ^ 27) fun i j => .int (i ^ j.toNat)) := opI fun _ _ _ _ _ _ _ hc q => pow_int hc.1 hc.2 q
end
section
variable {X : Cx} {K : PySem.W.Frag}
theorem ix_listK (h : X.K = K) : IxR X (rIxL K) := h ▸ ix_list
theorem ix_tupK (h : X.K = K) : IxR X (rIxT K) := h ▸ ix_tup
theorem op_eqK (h : X.K = K) (hu : X.A.units + 64 < cLine) : OpR X (compareOp .Eq) (rEqD K) := h ▸ op_eqD hu
theorem op_neK (h : X.K = K) (hu : X.A.units + 64 < cLine) : OpR X (compareOp .NotEq) (rNeD K) := h ▸ op_neD hu
theorem op_inK (h : X.K = K) : OpR X (compareOp .In) (rIn K false) := h ▸ op_in_seq
theorem op_ninK (h : X.K = K) : OpR X (compareOp .NotIn) (rIn K true) := h ▸ op_notIn_seq
theorem op_catK (h : X.K = K) : OpR X (binaryOp .Add) (rCatA K) := h ▸ op_catA
theorem op_ltK (h : X.K = K) (hu : X.A.units < cLine) : OpR X (compareOp .Lt) (rLtT K) := h ▸ op_ltT hu
theorem op_repK (h : X.K = K) : OpR X (binaryOp .Mult) (rRepT K) := h ▸ op_repT
theorem sl_listK (h : X.K = K) : SlR X (rSlL K) := h ▸ sl_list
theorem sl_tupK (h : X.K = K) : SlR X (rSlA K) := h ▸ sl_tupA
theorem call_lenK (h : X.K = K) : CallR X (.builtin "len") (fun xs H Q => ∃ p ys, xs = [.ref p] ∧ (SqL K H p ys ∨ SqT K H p ys) ∧ Q (.int ys.length) H) := h ▸ call_len_seq
theorem call_tupleK (h : X.K = K) : CallR X (.type "tuple") (fun xs H Q => ∃ p ys, xs = [.ref p] ∧ ((SqL K H p ys ∧ ∀ l, H l = none → Q (.ref l) (upd H l (.tup ys))) ∨ (SqT K H p ys ∧ Q (.ref p) H))) := h ▸ call_tuple_of
theorem call_listK (h : X.K = K) : CallR X (.type "list") (fun xs H Q => ∃ p ys, xs = [.ref p] ∧ (SqL K H p ys ∨ SqT K H p ys) ∧ ∀ l, H l = none → Q (.ref l) (upd H l (.lst ys))) := h ▸ call_list_of
theorem cr_sortedK (h : X.K = K) : CallR X (.builtin "sorted") (rSortedI K) := h ▸ cr_sortedI
theorem cr_minK (h : X.K = K) (hc : X.calm = true) : CallR X (.builtin "min") (rMin K) := h ▸ cr_min hc
theorem cr_allK (h : X.K = K) (hc : X.calm = true) : CallR X (.builtin "all") (rAll K) := h ▸ cr_all hc
theorem call_isiK' (h : X.K = K) : CallR X (.builtin "isinstance") (rIsi K) := h ▸ call_isi
end
/-! ### data: equality, form -/
abbrev tI (ns : List Int) : PyData := .tuple (ns.map .int)
abbrev lI (ns : List Int) : PyData := .list (ns.map .int)
theorem sh_int (i : Int) : SeqAt.shaped (.int i) = true := rfl
theorem sh_bool (b : Bool) : SeqAt.shaped (.bool b) = true := rfl
theorem sh_tI (ns : List Int) : SeqAt.shaped (tI ns) = true := by
  simp [SeqAt.shaped, PyData.canLay0, PyData.depth, PySem.W.ke_canLayAll0, PySem.W.ke_depthAll]
theorem sh_lI (ns : List Int) : SeqAt.shaped (lI ns) = true := by
  simp [SeqAt.shaped, PyData.canLay0, PyData.depth, PySem.W.ke_canLayAll0, PySem.W.ke_depthAll]
theorem eqv_int (i j : Int) : PyData.eqv (.int i) (.int j) = decide (i = j) := by
  simp [PyData.eqv]
  by_cases h : i = j <;> simp [h]
theorem eqv_bool (a b : Bool) : PyData.eqv (.bool a) (.bool b) = (a == b) := by
  cases a <;> cases b <;> simp [PyData.eqv]
theorem eqvAll_ints : ∀ ns ms : List Int, PyData.eqvAll (ns.map .int) (ms.map .int) = decide (ns = ms)
  | [], [] => by simp [PyData.eqvAll]
  | [], _ :: _ => by simp [PyData.eqvAll]
  | _ :: _, [] => by simp [PyData.eqvAll]
  | a :: r, b :: t => by
    rw [List.map_cons, List.map_cons, PyData.eqvAll, eqv_int, eqvAll_ints r t]
    by_cases h : a = b <;> by_cases h' : r = t <;> simp [h, h']
theorem eqv_tI (ns ms : List Int) : PyData.eqv (tI ns) (tI ms) = decide (ns = ms) := by
  show PyData.eqv (.tuple _) (.tuple _) = _
  rw [PyData.eqv, eqvAll_ints]
theorem eqv_lI (ns ms : List Int) : PyData.eqv (lI ns) (lI ms) = decide (ns = ms) := by
  show PyData.eqv (.list _) (.list _) = _
  rw [PyData.eqv, eqvAll_ints]
section
variable {K : PySem.W.Frag} {r : Rho} {ta tb : TE} {ns ms : List Int} {i j : Int}
theorem ev_eqI (ha : EvD K ta r (.int i)) (hb : EvD K tb r (.int j)) : EvD K (tOp (rEqD K) ta tb) r (.bool (decide (i = j))) := by
  rw [← eqv_int]; exact ev_eq ha.toH hb.toH rfl rfl
theorem ev_eqB {a b : Bool} (ha : EvD K ta r (.bool a)) (hb : EvD K tb r (.bool b)) : EvD K (tOp (rEqD K) ta tb) r (.bool (a == b)) := by
  rw [← eqv_bool]; exact ev_eq ha.toH hb.toH rfl rfl
theorem ev_neI (ha : EvD K ta r (.int i)) (hb : EvD K tb r (.int j)) : EvD K (tOp (rNeD K) ta tb) r (.bool (!decide (i = j))) := by
  rw [← eqv_int]; exact ev_ne ha.toH hb.toH rfl rfl
theorem ev_eqT (ha : EvD K ta r (tI ns)) (hb : EvD K tb r (tI ms)) : EvD K (tOp (rEqD K) ta tb) r (.bool (decide (ns = ms))) := by
  rw [← eqv_tI]; exact ev_eq ha.toH hb.toH (sh_tI _) (sh_tI _)
theorem ev_neT (ha : EvD K ta r (tI ns)) (hb : EvD K tb r (tI ms)) : EvD K (tOp (rNeD K) ta tb) r (.bool (!decide (ns = ms))) := by
  rw [← eqv_tI]; exact ev_ne ha.toH hb.toH (sh_tI _) (sh_tI _)
theorem ev_eqL (ha : EvL K ta r (ns.map .int)) (hb : EvL K tb r (ms.map .int)) : EvD K (tOp (rEqD K) ta tb) r (.bool (decide (ns = ms))) := by
  rw [← eqv_lI]; exact ev_eq ha.toH hb.toH (sh_lI _) (sh_lI _)
theorem ev_add (ha : EvD K ta r (.int i)) (hb : EvD K tb r (.int j)) : EvD K (tOp (rI0 fun i j => .int (i + j)) ta tb) r (.int (i + j)) := ev_I0 ha hb fun _ => .int _
theorem ev_sub (ha : EvD K ta r (.int i)) (hb : EvD K tb r (.int j)) : EvD K (tOp (rI0 fun i j => .int (i - j)) ta tb) r (.int (i - j)) := ev_I0 ha hb fun _ => .int _
theorem ev_mod (ha : EvD K ta r (.int i)) (hb : EvD K tb r (.int j)) (hc : 0 < j) : EvD K (tOp (rI (fun _ j => 0 < j) fun i j => .int (i % j)) ta tb) r (.int (i % j)) := ev_I ha hb hc fun _ => .int _
theorem ev_pow (ha : EvD K ta r (.int i)) (hb : EvD K tb r (.int j)) (h0 : 0 ≤ j) (hz : (Builtin.Int.intBits i : Int) * j ≤ 2 ^ 27) : EvD K (tOp (rI (fun a n => 0 ≤ n ∧ (Builtin.Int.intBits a : Int) * n ≤ 2 ^ 27) fun i j => .int (i ^ j.toNat)) ta tb) r (.int (i ^ j.toNat)) := ev_I ha hb ⟨h0, hz⟩ fun _ => .int _
theorem ev_div (ha : EvD K ta r (.int i)) (hb : EvD K tb r (.int j)) (hc : 0 < j ∧ j < 1073741824) : EvD K (tOp (rI CDiv fun i j => .int (i / j)) ta tb) r (.int (i / j)) := ev_I ha hb hc fun _ => .int _
theorem ev_mul (ha : EvD K ta r (.int i)) (hb : EvD K tb r (.int j)) (hc : IntMulOk i j) : EvD K (tOp (rI IntMulOk fun i j => .int (i * j)) ta tb) r (.int (i * j)) := ev_I ha hb hc fun _ => .int _
theorem ev_lt (ha : EvD K ta r (.int i)) (hb : EvD K tb r (.int j)) : EvD K (tOp (rI0 fun i j => .bl (decide (i < j))) ta tb) r (.bool (decide (i < j))) := ev_I0 ha hb fun _ => .bl _
theorem ev_le (ha : EvD K ta r (.int i)) (hb : EvD K tb r (.int j)) : EvD K (tOp (rI0 fun i j => .bl (decide (i ≤ j))) ta tb) r (.bool (decide (i ≤ j))) := ev_I0 ha hb fun _ => .bl _
theorem ev_gt (ha : EvD K ta r (.int i)) (hb : EvD K tb r (.int j)) : EvD K (tOp (rI0 fun i j => .bl (decide (j < i))) ta tb) r (.bool (decide (j < i))) := ev_I0 ha hb fun _ => .bl _
theorem ev_ge (ha : EvD K ta r (.int i)) (hb : EvD K tb r (.int j)) : EvD K (tOp (rI0 fun i j => .bl (decide (j ≤ i))) ta tb) r (.bool (decide (j ≤ i))) := ev_I0 ha hb fun _ => .bl _
theorem ev_neg (ha : EvD K ta r (.int i)) : EvD K (tUn (rU fun i => .int (-i)) ta) r (.int (-i)) := ev_un ha fun x B H _ h Q k => by
  cases h
  exact ⟨i, rfl, k _ (.int _)⟩
theorem ev_t1 (ha : EvD K ta r (.int i)) : EvD K (tTup (tCons ta tNil)) r (tI [i]) := ev_tup (ea_cons ha ea_nil) (Nat.le_trans (show 1 ≤ 100000 by decide) (by decide))
/-- sorted ints -/
def ins (x : Int) : List Int → List Int
  | [] => [x]
  | y :: l => if x ≤ y then x :: y :: l else y :: ins x l
def isort : List Int → List Int
  | [] => []
  | x :: l => ins x (isort l)
theorem ins_perm (x : Int) : ∀ l : List Int, (ins x l).Perm (x :: l)
  | [] => .refl _
  | y :: l => by
    unfold ins
    split
    · exact .refl _
    · exact (List.Perm.cons y (ins_perm x l)).trans (.swap x y l)
theorem isort_perm : ∀ l : List Int, (isort l).Perm l
  | [] => .refl _
  | x :: l => (ins_perm x _).trans (List.Perm.cons x (isort_perm l))
theorem ins_mem {x z : Int} {l : List Int} : z ∈ ins x l ↔ z = x ∨ z ∈ l := by
  rw [(ins_perm x l).mem_iff, List.mem_cons]
theorem ins_pw (x : Int) : ∀ l : List Int, l.Pairwise (· ≤ ·) → (ins x l).Pairwise (· ≤ ·)
  | [], _ => by unfold ins; exact List.pairwise_singleton _ _
  | y :: l, h => by
    unfold ins
    rw [List.pairwise_cons] at h
    split
    · rename_i hxy
      rw [List.pairwise_cons, List.pairwise_cons]
      refine ⟨fun a ha => ?_, h⟩
      rcases List.mem_cons.mp ha with rfl | ha
      · exact hxy
      · exact Int.le_trans hxy (h.1 a ha)
    · rename_i hxy
      rw [List.pairwise_cons]
      refine ⟨fun a ha => ?_, ins_pw x l h.2⟩
      rcases ins_mem.mp ha with rfl | ha
      · omega
      · exact h.1 a ha
theorem isort_pw : ∀ l : List Int, (isort l).Pairwise (· ≤ ·)
  | [] => .nil
  | x :: l => ins_pw x _ (isort_pw l)
theorem pw_perm_eq : ∀ {l m : List Int}, l.Pairwise (· ≤ ·) → m.Pairwise (· ≤ ·) → l.Perm m → l = m
  | [], m, _, _, p => (List.nil_perm.mp p).symm
  | a :: l, [], _, _, p => by have := p.length_eq; simp at this
  | a :: l, b :: m, h1, h2, p => by
    rw [List.pairwise_cons] at h1 h2
    have e : a = b := by
      have ha : a ∈ b :: m := p.mem_iff.mp List.mem_cons_self
      have hb : b ∈ a :: l := p.mem_iff.mpr List.mem_cons_self
      rcases List.mem_cons.mp ha with e | ha
      · exact e
      rcases List.mem_cons.mp hb with e | hb
      · exact e.symm
      exact Int.le_antisymm (h1.1 b hb) (h2.1 a ha)
    subst e
    rw [pw_perm_eq h1.2 h2.2 (List.perm_cons a |>.mp p)]
theorem isort_eq {l m : List Int} (h : m.Pairwise (· ≤ ·)) (p : m.Perm l) : isort l = m := pw_perm_eq (isort_pw l) h ((isort_perm l).trans p.symm)
theorem ev_sorted (ha : EvL K ta r (ns.map .int)) : EvN K (tCB (rSortedI K) (tCons ta tNil)) r ((isort ns).map .int) :=
  ev_cb1N ha fun x B H i ⟨a, xs, h1, h2, h3⟩ Q k => ⟨a, ns, by rw [h1], by rw [← dpa_ints_inv h3]; exact h2, fun ns' p q1 q2 hp => k p _ hp (by rw [isort_eq q2 q1]; exact dpa_ints _)⟩
end
/-! ### parts of lists -/
theorem cut_lo {xs : List PyData} {k : Nat} : cutD xs (some (k : Int)) none = xs.drop k := by
  unfold cutD
  rw [HT.sIx_nat, HT.sIx_none]
  by_cases h : k ≤ xs.length
  · rw [Nat.min_eq_left h]
    exact List.take_of_length_le (by rw [List.length_drop]; exact Nat.le_refl _)
  · rw [Nat.min_eq_right (by omega), Nat.sub_self, List.take_zero, List.drop_eq_nil_of_le (by omega)]
theorem cut_hi {xs : List PyData} {k : Nat} : cutD xs none (some (k : Int)) = xs.take k := by
  unfold cutD
  rw [HT.sIx_nat, HT.sIx_none, List.drop_zero, Nat.sub_zero]
  by_cases h : k ≤ xs.length
  · rw [Nat.min_eq_left h]
  · rw [Nat.min_eq_right (by omega), List.take_length, List.take_of_length_le (by omega)]
theorem cut_mid {xs : List PyData} {a b : Nat} : cutD xs (some (a : Int)) (some (b : Int)) = (xs.take b).drop a := by
  unfold cutD
  rw [HT.sIx_nat, HT.sIx_nat]
  rw [List.drop_take]
  by_cases h : a ≤ xs.length
  · rw [Nat.min_eq_left h]
    by_cases h2 : b ≤ xs.length
    · rw [Nat.min_eq_left h2]
    · rw [Nat.min_eq_right (by omega), List.take_of_length_le (by rw [List.length_drop]; exact Nat.le_refl _), List.take_of_length_le (by rw [List.length_drop]; omega)]
  · rw [Nat.min_eq_right (by omega : xs.length ≤ a), List.drop_eq_nil_of_le (Nat.le_refl _), List.drop_eq_nil_of_le (by omega : xs.length ≤ a)]
    simp
theorem cutD_len (xs : List PyData) (lo hi : Option Int) : (cutD xs lo hi).length ≤ xs.length := by
  unfold cutD
  rw [List.length_take, List.length_drop]
  omega
theorem cutD_mem {xs : List PyData} {lo hi : Option Int} {d : PyData} (h : d ∈ cutD xs lo hi) : d ∈ xs := List.mem_of_mem_drop (List.mem_of_mem_take h)
theorem put_eq {xs : List PyData} {k : Nat} {d : PyData} (h : k < xs.length) : cutD xs none (some (k : Int)) ++ [d] ++ cutD xs (some ((k : Int) + 1)) none = xs.set k d := by
  have e : ((k : Int) + 1) = ((k + 1 : Nat) : Int) := by omega
  rw [e, cut_lo, cut_hi, List.set_eq_take_append_cons_drop, if_pos h, List.append_assoc]
  rfl
theorem at_ints {ns : List Int} {i x : Int} (h : atI ns i = some x) : atI (ns.map PyData.int) i = some (.int x) := by
  unfold atI at h ⊢
  rw [List.length_map]
  cases q : ixN ns.length i with
  | none => rw [q] at h; cases h
  | some j =>
    rw [q] at h
    show (ns.map PyData.int)[j]? = _
    rw [List.getElem?_map, show ns[j]? = some x from h]; rfl
theorem at_nn {ns : List Int} {i : Int} (h0 : 0 ≤ i) (h1 : i < ns.length) : atI (ns.map PyData.int) i = some (.int (ns.getD i.toNat 0)) := by
  refine at_ints ?_
  unfold atI ixN
  rw [if_pos h0, if_pos h1]
  show ns[i.toNat]? = _
  rw [List.getD_eq_getElem?_getD, List.getElem?_eq_getElem (by omega)]; rfl
theorem at_last {ns : List Int} (h1 : 0 < ns.length) : atI (ns.map PyData.int) (-1) = some (.int (ns.getD (ns.length - 1) 0)) := by
  refine at_ints ?_
  unfold atI ixN
  rw [if_neg (by omega), if_pos (by omega)]
  show ns[_]? = _
  rw [show ((-1 : Int) + (ns.length : Int)).toNat = ns.length - 1 by omega, List.getD_eq_getElem?_getD, List.getElem?_eq_getElem (by omega)]; rfl
theorem szI {n : Nat} (h : n ≤ 100000) : n ≤ sizeLine := Nat.le_trans h (by decide)
theorem szlt {n : Nat} (h : n < 100000) : n < sizeLine := Nat.lt_of_lt_of_le h (by decide)
theorem mulR {a b : Int} (h1 : -(2 ^ 64) < b) (h2 : b < 2 ^ 64) : IntMulOk a b := IntMulOk.of_right (intBits_le_64 h1 h2)
theorem mulL {a b : Int} (h1 : -(2 ^ 64) < a) (h2 : a < 2 ^ 64) : IntMulOk a b := IntMulOk.of_left (intBits_le_64 h1 h2)
end Od

namespace Od
open PySem PySem.Spec PyProof.Rows L2

/-! ### the script's cells -/
def cell (ns : List Int) (k : Int) : Int := ns.getD k.toNat 0
def mix (c p m : Int) : Int := c * 48271 % p % m
def many (ns : List Int) : Int := 2 + mix (cell ns 0) 9973 7
def size (ns : List Int) : Int := many ns + mix (cell ns 0) 9967 (21 - many ns)
def state (ns : List Int) : List Int := (irange 0 (many ns).toNat).map fun k => mix (cell ns 1 + 31 * k) 9949 (size ns)
theorem mix_lo {c p m : Int} (h : 0 < m) : 0 ≤ mix c p m := Int.emod_nonneg _ (by omega)
theorem mix_hi {c p m : Int} (h : 0 < m) : mix c p m < m := Int.emod_lt_of_pos _ h
theorem many_b (ns : List Int) : 2 ≤ many ns ∧ many ns ≤ 8 := by
  have h1 := mix_lo (c := cell ns 0) (p := 9973) (m := 7) (by omega)
  have h2 := mix_hi (c := cell ns 0) (p := 9973) (m := 7) (by omega)
  unfold many
  omega
theorem size_b (ns : List Int) : many ns ≤ size ns ∧ size ns ≤ 20 := by
  have hm := many_b ns
  have h1 := mix_lo (c := cell ns 0) (p := 9967) (m := 21 - many ns) (by omega)
  have h2 := mix_hi (c := cell ns 0) (p := 9967) (m := 21 - many ns) (by omega)
  unfold size
  omega
theorem state_len (ns : List Int) : (state ns).length = (many ns).toNat := by unfold state; rw [List.length_map, irange_len]
def F__law_cell : List PyData → PyData → Prop := fun ds d => ∃ ns k, ds = [lI ns, .int k] ∧ 0 ≤ k ∧ d = .int (cell ns k)
def F__law_mix : List PyData → PyData → Prop := fun ds d => ∃ c p m, ds = [.int c, .int p, .int m] ∧ 0 < p ∧ 0 < m ∧ d = .int (mix c p m)
def F__law_size : List PyData → PyData → Prop := fun ds d => ∃ ns, ds = [lI ns] ∧ d = .int (size ns)
def F__law_state : List PyData → PyData → Prop := fun ds d => ∃ ns, ds = [lI ns] ∧ d = tI (state ns)
theorem L__law_cell : ∀ ds d, F__law_cell ds d → ds.length = 2 := fun _ _ ⟨_, _, e, _⟩ => by rw [e]; rfl
theorem L__law_mix : ∀ ds d, F__law_mix ds d → ds.length = 3 := fun _ _ ⟨_, _, _, e, _⟩ => by rw [e]; rfl
theorem L__law_size : ∀ ds d, F__law_size ds d → ds.length = 1 := fun _ _ ⟨_, e, _⟩ => by rw [e]; rfl
theorem L__law_state : ∀ ds d, F__law_state ds d → ds.length = 1 := fun _ _ ⟨_, e, _⟩ => by rw [e]; rfl
section
variable {K : PySem.W.Frag} {r : Rho} {t ta tb tc : TE} {X : XK} {ns : List Int} {k c p m : Int}
theorem cv_cell (h1 : EvD K ta r (lI ns)) (h2 : EvD K tb r (.int k)) (h0 : 0 ≤ k) : EvD K (tCall (spR K F__law_cell) [] X (tCons ta (tCons tb tNil))) r (.int (cell ns k)) := ev_call (ea_cons h1 (ea_cons h2 ea_nil)) ⟨ns, k, rfl, h0, rfl⟩
theorem cv_mix (h1 : EvD K ta r (.int c)) (h2 : EvD K tb r (.int p)) (h3 : EvD K tc r (.int m)) (hp : 0 < p) (hm : 0 < m) : EvD K (tCall (spR K F__law_mix) [] X (tCons ta (tCons tb (tCons tc tNil)))) r (.int (mix c p m)) := ev_call (ea_cons h1 (ea_cons h2 (ea_cons h3 ea_nil))) ⟨c, p, m, rfl, hp, hm, rfl⟩
theorem cv_size (h1 : EvD K ta r (lI ns)) : EvD K (tCall (spR K F__law_size) [] X (tCons ta tNil)) r (.int (size ns)) := ev_call (ea_cons h1 ea_nil) ⟨ns, rfl, rfl⟩
theorem cv_state (h1 : EvD K ta r (lI ns)) : EvD K (tCall (spR K F__law_state) [] X (tCons ta tNil)) r (tI (state ns)) := ev_call (ea_cons h1 ea_nil) ⟨ns, rfl, rfl⟩
end
/-! ### the ring -/
def hasMark (s : List Int) (h : Int) : Bool := if h = 0 then decide (s.getD 0 0 = s.getD (s.length - 1) 0) else !decide (s.getD h.toNat 0 = s.getD (h.toNat - 1) 0)
def marks (s : List Int) : List Int := (irange 0 s.length).filter (hasMark s)
def newNum (s : List Int) (z h : Int) : Int := if h = 0 then (s.getD 0 0 + 1) % z else s.getD (h.toNat - 1) 0
def moved (s : List Int) (z h : Int) : List Int := s.set h.toNat (newNum s z h)
def shifted (s : List Int) (z by_ : Int) : List Int := s.map fun x => (x + by_) % z
theorem marks_mem {s : List Int} {h : Int} : h ∈ marks s ↔ 0 ≤ h ∧ h < s.length ∧ hasMark s h = true := by
  unfold marks
  rw [List.mem_filter, irange_mem]
  constructor
  · rintro ⟨⟨h1, h2⟩, h3⟩; exact ⟨h1, by omega, h3⟩
  · rintro ⟨h1, h2, h3⟩; exact ⟨⟨h1, by omega⟩, h3⟩
theorem moved_len {s : List Int} {z h : Int} : (moved s z h).length = s.length := List.length_set
theorem shifted_len {s : List Int} {z h : Int} : (shifted s z h).length = s.length := List.length_map _
def F_has_mark : List PyData → PyData → Prop := fun ds d => ∃ s h, ds = [tI s, .int h] ∧ 0 ≤ h ∧ h < (s.length : Int) ∧ d = .bool (hasMark s h)
def F_marked : List PyData → PyData → Prop := fun ds d => ∃ s, ds = [tI s] ∧ s.length ≤ 1000 ∧ d = tI (marks s)
def F_moved : List PyData → PyData → Prop := fun ds d => ∃ s z h, ds = [tI s, .int z, .int h] ∧ h ∈ marks s ∧ 0 < z ∧ s.length ≤ 1000 ∧ d = tI (moved s z h)
def R_moved : List PyData → Prop := fun ds => ∃ s z h, ds = [tI s, .int z, .int h] ∧ h ∉ marks s ∧ s.length ≤ 1000
def F_shifted : List PyData → PyData → Prop := fun ds d => ∃ s z b, ds = [tI s, .int z, .int b] ∧ 0 < z ∧ s.length ≤ 1000 ∧ d = tI (shifted s z b)
theorem L_has_mark : ∀ ds d, F_has_mark ds d → ds.length = 2 := fun _ _ ⟨_, _, e, _⟩ => by rw [e]; rfl
theorem L_marked : ∀ ds d, F_marked ds d → ds.length = 1 := fun _ _ ⟨_, e, _⟩ => by rw [e]; rfl
theorem L_moved : ∀ ds d, F_moved ds d → ds.length = 3 := fun _ _ ⟨_, _, _, e, _⟩ => by rw [e]; rfl
theorem LR_moved : ∀ ds, R_moved ds → ds.length = 3 := fun _ ⟨_, _, _, e, _⟩ => by rw [e]; rfl
theorem L_shifted : ∀ ds d, F_shifted ds d → ds.length = 3 := fun _ _ ⟨_, _, _, e, _⟩ => by rw [e]; rfl
section
variable {K : PySem.W.Frag} {r : Rho} {t ta tb tc : TE} {X : XK} {s : List Int} {z h b : Int} {C : Addr}
theorem cv_has_mark (h1 : EvD K ta r (tI s)) (h2 : EvD K tb r (.int h)) (q0 : 0 ≤ h) (q1 : h < (s.length : Int)) : EvD K (tCall (spR K F_has_mark) [] X (tCons ta (tCons tb tNil))) r (.bool (hasMark s h)) := ev_call (ea_cons h1 (ea_cons h2 ea_nil)) ⟨s, h, rfl, q0, q1, rfl⟩
theorem cv_marked (h1 : EvD K ta r (tI s)) (q : s.length ≤ 1000) : EvD K (tCall (spR K F_marked) [] X (tCons ta tNil)) r (tI (marks s)) := ev_call (ea_cons h1 ea_nil) ⟨s, rfl, q, rfl⟩
theorem cv_moved (h1 : EvD K ta r (tI s)) (h2 : EvD K tb r (.int z)) (h3 : EvD K tc r (.int h)) (q : h ∈ marks s) (q1 : 0 < z) (q2 : s.length ≤ 1000) : EvD K (tCall (spX K C F_moved R_moved) [] X (tCons ta (tCons tb (tCons tc tNil)))) r (tI (moved s z h)) := ev_callX (ea_cons h1 (ea_cons h2 (ea_cons h3 ea_nil))) ⟨s, z, h, rfl, q, q1, q2, rfl⟩
theorem cv_shifted (h1 : EvD K ta r (tI s)) (h2 : EvD K tb r (.int z)) (h3 : EvD K tc r (.int b)) (q1 : 0 < z) (q2 : s.length ≤ 1000) : EvD K (tCall (spR K F_shifted) [] X (tCons ta (tCons tb (tCons tc tNil)))) r (tI (shifted s z b)) := ev_call (ea_cons h1 (ea_cons h2 (ea_cons h3 ea_nil))) ⟨s, z, b, rfl, q1, q2, rfl⟩
end
end Od

namespace Od
open PySem PySem.Spec PyProof.Rows L2

/-! ### lists -/
theorem ext_getD {l m : List Int} (hl : l.length = m.length) (h : ∀ i, i < l.length → l.getD i 0 = m.getD i 0) : l = m := by
  refine List.ext_getElem hl fun i h1 h2 => ?_
  have q := h i h1
  rw [List.getD_eq_getElem?_getD, List.getD_eq_getElem?_getD, List.getElem?_eq_getElem h1, List.getElem?_eq_getElem h2] at q
  exact q
theorem getD_set {l : List Int} {i j : Nat} {x : Int} (hi : i < l.length) : (l.set i x).getD j 0 = if j = i then x else l.getD j 0 := by
  rw [List.getD_eq_getElem?_getD, List.getD_eq_getElem?_getD, List.getElem?_set]
  by_cases h : j = i
  · subst h; rw [if_pos rfl, if_pos rfl, if_pos hi]; rfl
  · rw [if_neg h, if_neg (fun z => h z.symm)]
theorem getD_map {f : Int → Int} {l : List Int} {i : Nat} (hi : i < l.length) : (l.map f).getD i 0 = f (l.getD i 0) := by
  rw [List.getD_eq_getElem?_getD, List.getD_eq_getElem?_getD, List.getElem?_map, List.getElem?_eq_getElem hi]; rfl
theorem getD_irange {lo : Int} {n i : Nat} (hi : i < n) : (irange lo n).getD i 0 = lo + i := by
  rw [List.getD_eq_getElem?_getD, irange_get hi]; rfl
theorem getD_mapr {f : Int → Int} {n i : Nat} (hi : i < n) : ((irange 0 n).map f).getD i 0 = f i := by
  rw [getD_map (by rw [irange_len]; exact hi), getD_irange hi, Int.zero_add]
theorem getD_mem {l : List Int} {i : Nat} (hi : i < l.length) : l.getD i 0 ∈ l := by
  rw [List.getD_eq_getElem?_getD, List.getElem?_eq_getElem hi]
  exact List.getElem_mem hi
theorem sorted_ext : ∀ {l m : List Int}, l.Pairwise (· < ·) → m.Pairwise (· < ·) → (∀ x, x ∈ l ↔ x ∈ m) → l = m
  | [], [], _, _, _ => rfl
  | [], b :: m, _, _, h => by have := (h b).mpr List.mem_cons_self; cases this
  | a :: l, [], _, _, h => by have := (h a).mp List.mem_cons_self; cases this
  | a :: l, b :: m, h1, h2, h => by
    rw [List.pairwise_cons] at h1 h2
    have e : a = b := by
      rcases List.mem_cons.mp ((h a).mp List.mem_cons_self) with e | ha
      · exact e
      rcases List.mem_cons.mp ((h b).mpr List.mem_cons_self) with e | hb
      · exact e.symm
      have := h1.1 b hb
      have := h2.1 a ha
      omega
    subst e
    rw [sorted_ext h1.2 h2.2 fun x => ?_]
    constructor
    · intro hx
      rcases List.mem_cons.mp ((h x).mp (List.mem_cons_of_mem _ hx)) with e | hx'
      · subst e; have := h1.1 x hx; omega
      · exact hx'
    · intro hx
      rcases List.mem_cons.mp ((h x).mpr (List.mem_cons_of_mem _ hx)) with e | hx'
      · subst e; have := h2.1 x hx; omega
      · exact hx'
theorem irange_pw {lo : Int} {n : Nat} : (irange lo n).Pairwise (· < ·) := by
  unfold irange
  rw [List.pairwise_map]
  exact List.pairwise_lt_range.imp fun h => by omega
theorem filter_pw {lo : Int} {n : Nat} {p : Int → Bool} : ((irange lo n).filter p).Pairwise (· < ·) := irange_pw.filter p
theorem filter_single {n : Nat} {p : Int → Bool} {h : Int} (h0 : 0 ≤ h) (h1 : h < n) (hp : ∀ k : Int, 0 ≤ k → k < n → (p k = true ↔ k = h)) : (irange 0 n).filter p = [h] :=
  sorted_ext filter_pw (List.pairwise_singleton _ _) fun x => by
    rw [List.mem_filter, irange_mem, List.mem_singleton]
    constructor
    · rintro ⟨⟨a, b⟩, c⟩
      exact (hp x a (by omega)).mp c
    · rintro rfl
      exact ⟨⟨h0, by omega⟩, (hp x h0 h1).mpr rfl⟩
theorem irange_succ {n : Nat} : irange 0 (n + 1) = irange 0 n ++ [(n : Int)] := by
  unfold irange
  rw [List.range_succ, List.map_append]
  show _ ++ [0 + (n : Int)] = _
  rw [Int.zero_add]
theorem filt_yes {p : Int → Bool} {l : List Int} {x : Int} (h : p x = true) : (l ++ [x]).filter p = l.filter p ++ [x] := by
  rw [List.filter_append, List.filter_cons_of_pos h, List.filter_nil]
theorem filt_no {p : Int → Bool} {l : List Int} {x : Int} (h : p x = false) : (l ++ [x]).filter p = l.filter p := by
  rw [List.filter_append, List.filter_cons_of_neg (by rw [h]; exact Bool.false_ne_true), List.filter_nil, List.append_nil]
end Od

namespace Od
open PySem PySem.Spec PyProof.Rows L2

/-! ### kinds -/
def tyD : PyData → String
  | .none => "NoneType"
  | .bool _ => "bool"
  | .int _ => "int"
  | .str _ => "str"
  | .list _ => "list"
  | .tuple _ => "tuple"
  | .dict _ => "dict"
section
variable {K : PySem.W.Frag} {r : Rho} {d : PyData} {te ta tb : TE}
theorem dp_ty {H : Hp} {v : V} (h : Dp K H v d) : TyX K H v (.type (tyD d)) := by
  cases h with
  | non => exact .base .non
  | bl b => exact .base (.bl b)
  | int i => exact .base (.int i)
  | str x => exact .base (.str x)
  | lst hs _ =>
    rcases hs with (h | ⟨o, h⟩) | ⟨o, its, n, h1, h2, _⟩
    · exact .base (.lst h)
    · exact .base (.frz h)
    · exact .kList h1 h2
  | tup hs _ =>
    rcases hs with (h | ⟨o, h⟩) | ⟨o, its, n, h1, h2, _⟩
    · exact .base (.tup h)
    · exact .fTuple h
    · exact .kTuple h1 h2
theorem ev_isi {T : String} {b : Bool} (ha : EvH K ta r d) (hk : kitB (tyD d) T = some b) : EvD K (tCB (rIsi K) (tCons ta (tCons (tC (.ty T)) tNil))) r (.bool b) := fun B H s E Q k =>
  ha B H s E _ fun v B1 H1 x1 h1 => ⟨v, .ty T, _, _, b, rfl, .ty T, dp_ty h1, kit_ty hk, k _ B1 H1 x1 (.bl b)⟩
theorem kit_tt : kitB "tuple" "tuple" = some true := by decide +kernel
theorem ev_isN {a b : Bool} (ha : EvD K ta r (.bool a)) (hb : EvD K tb r (.bool b)) : EvD K (tOp rNotB ta tb) r (.bool (!decide (a = b))) := ev_flat mD ha hb fun x y B H i h1 h2 Q k => by
  cases h1; cases h2
  exact ⟨a, b, rfl, rfl, k _ (.bl _)⟩
theorem ev_listRg {n : Int} (ha : EvD K ta r (.int n)) (h0 : 0 ≤ n) (h1 : n ≤ 100000) : EvN K (tLstRg (tRg1 ta)) r ((irange 0 n.toNat).map .int) := fun B H s E Q k =>
  ha B H s E _ fun v B1 H1 x1 h => by
    cases h
    refine ⟨n, rfl, .of_le (by omega) (by omega) (by omega) (by omega), fun q hq => ?_⟩
    refine k q _ B1 _ (x1.trans (.skip x1.i hq)) (x1.h.free hq) upd_same (x1.i.free hq) ?_
    have e : rgV 0 n = (irange 0 n.toNat).map V.int := by
      unfold rgV irange
      rw [List.map_map, Int.sub_zero]; rfl
    rw [e]
    exact dpa_ints _
end
end Od

namespace Od
open PySem PySem.Spec PyProof.Rows L2

/-! ### nets -/
abbrev at_ (xs : List Int) (h : Int) : Int := xs.getD h.toNat 0
abbrev eD (p : Int × Int) : PyData := .tuple [.int p.1, .int p.2]
abbrev nD (m : Int) (es : List (Int × Int)) : PyData := .tuple [.int m, .tuple (es.map eD)]
structure Net (m : Int) (es : List (Int × Int)) : Prop where
  lo : 1 ≤ m
  hi : m ≤ 8
  ed : ∀ p ∈ es, 0 ≤ p.1 ∧ p.1 < p.2 ∧ p.2 < m
  ln : es.length ≤ 1000
  nd : es.Nodup
def nmany (ns : List Int) : Int := 1 + mix (cell ns 0) 9973 8
def nshare (ns : List Int) : Int := mix (cell ns 0) 9967 8
def npick (ns : List Int) (a b : Int) : Bool := decide (mix (cell ns 1 + 131 * a + 17 * b) 9949 9 < nshare ns)
def nrow (ns : List Int) (a : Int) : List (Int × Int) := ((irange (a + 1) (nmany ns - (a + 1)).toNat).filter (npick ns a)).map fun b => (a, b)
def nedges (ns : List Int) : List (Int × Int) := (irange 0 (nmany ns).toNat).flatMap (nrow ns)
theorem nmany_b (ns : List Int) : 1 ≤ nmany ns ∧ nmany ns ≤ 8 := by
  have h1 := mix_lo (c := cell ns 0) (p := 9973) (m := 8) (by omega)
  have h2 := mix_hi (c := cell ns 0) (p := 9973) (m := 8) (by omega)
  unfold nmany
  omega
theorem nrow_len (ns : List Int) {a : Int} (h : 0 ≤ a) : (nrow ns a).length ≤ 8 := by
  have := nmany_b ns
  unfold nrow
  rw [List.length_map]
  have h2 := List.length_filter_le (npick ns a) (irange (a + 1) (nmany ns - (a + 1)).toNat)
  rw [irange_len] at h2
  omega
theorem flat_len {f : Int → List (Int × Int)} {k : Nat} : ∀ {l : List Int}, (∀ a ∈ l, (f a).length ≤ k) → (l.flatMap f).length ≤ l.length * k
  | [], _ => by simp
  | a :: l, h => by
    rw [List.flatMap_cons, List.length_append, List.length_cons, Nat.succ_mul]
    have := flat_len (l := l) fun b hb => h b (List.mem_cons_of_mem _ hb)
    have := h a List.mem_cons_self
    omega
theorem flat_nodup {f : Int → List (Int × Int)} (h1 : ∀ a, (f a).Nodup) (h2 : ∀ a, ∀ p ∈ f a, p.1 = a) : ∀ {l : List Int}, l.Nodup → (l.flatMap f).Nodup
  | [], _ => List.Pairwise.nil
  | a :: l, h => by
    rw [List.nodup_cons] at h
    rw [List.flatMap_cons, List.nodup_append]
    refine ⟨h1 a, flat_nodup h1 h2 h.2, fun p hp q hq e => ?_⟩
    obtain ⟨b, hb, hqb⟩ := List.mem_flatMap.mp hq
    have e1 := h2 a p hp
    have e2 := h2 b q hqb
    rw [← e, e1] at e2
    exact h.1 (by rw [e2]; exact hb)
theorem nedges_nodup (ns : List Int) : (nedges ns).Nodup := by
  refine flat_nodup (fun a => ?_) (fun a p hp => ?_) (irange_pw.imp fun h => by omega)
  · unfold nrow
    refine List.Pairwise.map _ (fun x y (h : x < y) e => ?_) filter_pw
    have : x = y := congrArg Prod.snd e
    omega
  · obtain ⟨b, hb, rfl⟩ := List.mem_map.mp hp
    rfl
theorem net_net (ns : List Int) : Net (nmany ns) (nedges ns) := by
  have hm := nmany_b ns
  refine ⟨hm.1, hm.2, fun p hp => ?_, ?_, nedges_nodup ns⟩
  · obtain ⟨a, ha, hp⟩ := List.mem_flatMap.mp hp
    have ha' := irange_mem.mp ha
    obtain ⟨b, hb, rfl⟩ := List.mem_map.mp hp
    have hb' := irange_mem.mp (List.mem_filter.mp hb).1
    show 0 ≤ a ∧ a < b ∧ b < nmany ns
    omega
  · have := flat_len (f := nrow ns) (k := 8) (l := irange 0 (nmany ns).toNat) fun a ha => nrow_len ns (by have := irange_mem.mp ha; omega)
    rw [irange_len] at this
    unfold nedges
    omega
def F__law_net : List PyData → PyData → Prop := fun ds d => ∃ ns, ds = [lI ns] ∧ d = nD (nmany ns) (nedges ns)
theorem L__law_net : ∀ ds d, F__law_net ds d → ds.length = 1 := fun _ _ ⟨_, e, _⟩ => by rw [e]; rfl
/-! ### neighbours -/
def nbe (h : Int) (p : Int × Int) : List Int := (if p.1 = h then [p.2] else []) ++ (if p.2 = h then [p.1] else [])
def nbr (es : List (Int × Int)) (h : Int) : List Int := es.flatMap (nbe h)
def nb (es : List (Int × Int)) (h : Int) : List Int := isort (nbr es h)
theorem nb_mem {es : List (Int × Int)} {h x : Int} : x ∈ nb es h ↔ (h, x) ∈ es ∨ (x, h) ∈ es := by
  unfold nb nbr
  rw [(isort_perm _).mem_iff, List.mem_flatMap]
  constructor
  · rintro ⟨⟨a, b⟩, hp, hx⟩
    unfold nbe at hx
    rcases List.mem_append.mp hx with q | q
    · split at q
      · rename_i e
        rw [List.mem_singleton] at q
        dsimp only at e q
        subst e q
        exact .inl hp
      · cases q
    · split at q
      · rename_i e
        rw [List.mem_singleton] at q
        dsimp only at e q
        subst e q
        exact .inr hp
      · cases q
  · rintro (hp | hp)
    · refine ⟨_, hp, ?_⟩
      unfold nbe
      rw [if_pos rfl]
      exact List.mem_append_left _ List.mem_cons_self
    · refine ⟨_, hp, ?_⟩
      unfold nbe
      rw [if_pos rfl]
      exact List.mem_append_right _ List.mem_cons_self
theorem nb_sym {es : List (Int × Int)} {h x : Int} : x ∈ nb es h ↔ h ∈ nb es x := by
  rw [nb_mem, nb_mem]; exact Or.comm
theorem Net.nb {m : Int} {es : List (Int × Int)} (N : Net m es) {h x : Int} (hx : x ∈ Od.nb es h) : 0 ≤ x ∧ x < m ∧ x ≠ h ∧ 0 ≤ h ∧ h < m := by
  rcases nb_mem.mp hx with q | q
  · have := N.ed _ q
    dsimp only at this
    omega
  · have := N.ed _ q
    dsimp only at this
    omega
theorem nbr_len {es : List (Int × Int)} {h : Int} : (nbr es h).length ≤ 2 * es.length := by
  unfold nbr
  induction es with
  | nil => simp
  | cons p es ih =>
    rw [List.flatMap_cons, List.length_append, List.length_cons]
    have : (nbe h p).length ≤ 2 := by
      unfold nbe
      rw [List.length_append]
      split <;> split <;> simp
    omega
theorem nb_len {es : List (Int × Int)} {h : Int} : (nb es h).length ≤ 2 * es.length := by
  unfold nb
  rw [(isort_perm _).length_eq]
  exact nbr_len
theorem near_perm (es : List (Int × Int)) (h : Int) : (((es.filter fun p => decide (p.1 = h)).map (·.2)) ++ ((es.filter fun p => decide (p.2 = h)).map (·.1))).Perm (nbr es h) := by
  induction es with
  | nil => exact .refl _
  | cons p es ih =>
    unfold nbr
    rw [List.flatMap_cons]
    refine List.Perm.trans ?_ (List.Perm.append_left _ ih)
    unfold nbe
    by_cases h1 : p.1 = h
    · rw [List.filter_cons_of_pos (by simp [h1]), if_pos h1]
      by_cases h2 : p.2 = h
      · rw [List.filter_cons_of_pos (by simp [h2]), if_pos h2]
        show (p.2 :: (_ ++ (p.1 :: _))).Perm ([p.2] ++ [p.1] ++ _)
        refine .cons _ ?_
        exact List.perm_middle
      · rw [List.filter_cons_of_neg (by simp [h2]), if_neg h2]
        exact .refl _
    · rw [List.filter_cons_of_neg (by simp [h1]), if_neg h1]
      by_cases h2 : p.2 = h
      · rw [List.filter_cons_of_pos (by simp [h2]), if_pos h2]
        exact List.perm_middle
      · rw [List.filter_cons_of_neg (by simp [h2]), if_neg h2]
        exact .refl _
theorem nbr_nodup : ∀ {es : List (Int × Int)} {h : Int}, es.Nodup → (∀ p ∈ es, p.1 < p.2) → (nbr es h).Nodup
  | [], _, _, _ => List.Pairwise.nil
  | p :: es, h, nd, hlt => by
    rw [List.nodup_cons] at nd
    unfold nbr
    rw [List.flatMap_cons, List.nodup_append]
    have hp := hlt p List.mem_cons_self
    refine ⟨?_, nbr_nodup nd.2 fun q hq => hlt q (List.mem_cons_of_mem _ hq), fun x hx y hy e => ?_⟩
    · unfold nbe
      split <;> split <;> simp
      rename_i a b
      omega
    · subst e
      obtain ⟨q, hq, hxq⟩ := List.mem_flatMap.mp hy
      have hq' := hlt q (List.mem_cons_of_mem _ hq)
      have key : ∀ z : Int × Int, x ∈ nbe h z → (z.1 = h ∧ z.2 = x) ∨ (z.2 = h ∧ z.1 = x) := fun z hz => by
        unfold nbe at hz
        rcases List.mem_append.mp hz with w | w
        · split at w
          · rename_i a; exact .inl ⟨a, (List.mem_singleton.mp w).symm⟩
          · cases w
        · split at w
          · rename_i a; exact .inr ⟨a, (List.mem_singleton.mp w).symm⟩
          · cases w
      have k1 := key p hx
      have k2 := key q hxq
      have e1 : p.1 = q.1 := by omega
      have e2 : p.2 = q.2 := by omega
      exact nd.1 (by rw [show p = q from Prod.ext e1 e2]; exact hq)
theorem Net.nb_nodup {m : Int} {es : List (Int × Int)} (N : Net m es) (h : Int) : (Od.nb es h).Nodup :=
  ((isort_perm _).nodup_iff).mpr (nbr_nodup N.nd fun p hp => (N.ed p hp).2.1)
theorem Net.nb_pw {m : Int} {es : List (Int × Int)} (N : Net m es) (h : Int) : (Od.nb es h).Pairwise (· < ·) := by
  have h1 : (Od.nb es h).Pairwise (· ≤ ·) := isort_pw _
  have h2 := N.nb_nodup h
  exact (h1.and h2).imp fun ⟨a, b⟩ => by omega
def F_neighbours : List PyData → PyData → Prop := fun ds d => ∃ m es h, ds = [nD m es, .int h] ∧ es.length ≤ 1000 ∧ d = tI (nb es h)
def F__law_near : List PyData → PyData → Prop := fun ds d => ∃ m es h, ds = [nD m es, .int h] ∧ es.length ≤ 1000 ∧ d = lI (nb es h)
def F_put : List PyData → PyData → Prop := fun ds d => ∃ xs k v, ds = [tI xs, .int k, .int v] ∧ 0 ≤ k ∧ k < (xs.length : Int) ∧ xs.length ≤ 1000 ∧ d = tI (xs.set k.toNat v)
theorem L_neighbours : ∀ ds d, F_neighbours ds d → ds.length = 2 := fun _ _ ⟨_, _, _, e, _⟩ => by rw [e]; rfl
theorem L__law_near : ∀ ds d, F__law_near ds d → ds.length = 2 := fun _ _ ⟨_, _, _, e, _⟩ => by rw [e]; rfl
theorem L_put : ∀ ds d, F_put ds d → ds.length = 3 := fun _ _ ⟨_, _, _, e, _⟩ => by rw [e]; rfl
section
variable {K : PySem.W.Frag} {r : Rho} {t ta tb tc : TE} {X : XK} {ns xs : List Int} {m h k v : Int} {es : List (Int × Int)}
theorem cv_net (h1 : EvD K ta r (lI ns)) : EvD K (tCall (spR K F__law_net) [] X (tCons ta tNil)) r (nD (nmany ns) (nedges ns)) := ev_call (ea_cons h1 ea_nil) ⟨ns, rfl, rfl⟩
theorem cv_nb (h1 : EvD K ta r (nD m es)) (h2 : EvD K tb r (.int h)) (q : es.length ≤ 1000) : EvD K (tCall (spR K F_neighbours) [] X (tCons ta (tCons tb tNil))) r (tI (nb es h)) := ev_call (ea_cons h1 (ea_cons h2 ea_nil)) ⟨m, es, h, rfl, q, rfl⟩
theorem cv_near (h1 : EvD K ta r (nD m es)) (h2 : EvD K tb r (.int h)) (q : es.length ≤ 1000) : EvD K (tCall (spR K F__law_near) [] X (tCons ta (tCons tb tNil))) r (lI (nb es h)) := ev_call (ea_cons h1 (ea_cons h2 ea_nil)) ⟨m, es, h, rfl, q, rfl⟩
theorem cv_put (h1 : EvD K ta r (tI xs)) (h2 : EvD K tb r (.int k)) (h3 : EvD K tc r (.int v)) (q0 : 0 ≤ k) (q1 : k < (xs.length : Int)) (q2 : xs.length ≤ 1000) : EvD K (tCall (spR K F_put) [] X (tCons ta (tCons tb (tCons tc tNil)))) r (tI (xs.set k.toNat v)) := ev_call (ea_cons h1 (ea_cons h2 (ea_cons h3 ea_nil))) ⟨xs, k, v, rfl, q0, q1, q2, rfl⟩
/-- net[0], net[1] -/
theorem ev_n0 (h1 : EvD K ta r (nD m es)) : EvD K (tOp (rIxT K) ta (tC (.int 0))) r (.int m) := ev_ixT h1 ev_int rfl
theorem ev_n1 (h1 : EvD K ta r (nD m es)) : EvD K (tOp (rIxT K) ta (tC (.int 1))) r (.tuple (es.map eD)) := ev_ixT h1 ev_int rfl
end
/-! ### counting -/
theorem nodup_len : ∀ {n : Nat} {l : List Int}, l.Nodup → (∀ x ∈ l, 0 ≤ x ∧ x < n) → l.length ≤ n
  | 0, l, _, h => by
    cases l with
    | nil => exact Nat.le_refl _
    | cons a l => have := h a List.mem_cons_self; omega
  | n + 1, l, nd, h => by
    by_cases hn : (n : Int) ∈ l
    · have h1 := nodup_len (n := n) (l := l.erase (n : Int)) (nd.erase _) fun x hx => by
        have h2 := h x (List.mem_of_mem_erase hx)
        have h3 : x ≠ n := fun e => by
          rw [e] at hx
          exact (List.Nodup.not_mem_erase nd) hx
        omega
      rw [List.length_erase_of_mem hn] at h1
      omega
    · have h1 := nodup_len (n := n) (l := l) nd fun x hx => by
        have h2 := h x hx
        have h3 : x ≠ n := fun e => hn (e ▸ hx)
        omega
      omega
theorem Net.nb_small {m : Int} {es : List (Int × Int)} (N : Net m es) (h : Int) : ((Od.nb es h).length : Int) < m := by
  have hm := N.lo
  cases q : Od.nb es h with
  | nil => simp; omega
  | cons a l =>
    have ha : a ∈ Od.nb es h := by rw [q]; exact List.mem_cons_self
    have hh := N.nb ha
    have h1 : (h :: Od.nb es h).Nodup := List.nodup_cons.mpr ⟨fun z => (N.nb z).2.2.1 rfl, N.nb_nodup h⟩
    have h2 := nodup_len (n := m.toNat) h1 fun x hx => by
      rcases List.mem_cons.mp hx with e | e
      · rw [e]; omega
      · have := N.nb e; omega
    rw [List.length_cons] at h2
    rw [q] at h2
    omega
theorem irange_nodup {lo : Int} {n : Nat} : (irange lo n).Nodup := irange_pw.imp fun h => by omega
theorem sub_len : ∀ {l k : List Int}, l.Nodup → (∀ x ∈ l, x ∈ k) → l.length ≤ k.length
  | [], _, _, _ => Nat.zero_le _
  | a :: l, k, nd, h => by
    rw [List.nodup_cons] at nd
    have ha := h a List.mem_cons_self
    have h1 := sub_len (l := l) (k := k.erase a) nd.2 fun x hx => (List.mem_erase_of_ne (fun (e : x = a) => nd.1 (by rw [← e]; exact hx))).mpr (h x (List.mem_cons_of_mem _ hx))
    rw [List.length_erase_of_mem ha] at h1
    have := List.length_pos_of_mem ha
    rw [List.length_cons]
    omega
/-- of n + 1 numbers one at least is not among n -/
theorem pigeon {l : List Int} {n : Nat} (h : l.length < n) : ∃ c, c ∈ irange 0 n ∧ c ∉ l := by
  refine Decidable.byContradiction fun hc => ?_
  have hall : ∀ c ∈ irange 0 n, c ∈ l := fun c hm => Decidable.byContradiction fun q => hc ⟨c, hm, q⟩
  have : (irange 0 n).length ≤ l.length := sub_len irange_nodup hall
  rw [irange_len] at this
  omega
theorem irange_succ' {lo : Int} {n : Nat} : irange lo (n + 1) = irange lo n ++ [lo + (n : Int)] := by
  unfold irange
  rw [List.range_succ, List.map_append]; rfl
theorem ixN_nn {n : Nat} {k : Int} (h0 : 0 ≤ k) (h1 : k < n) : ixN n k = some k.toNat := by
  unfold ixN
  rw [if_pos h0, if_pos h1]
theorem nbr_take {es : List (Int × Int)} {h : Int} {i : Nat} {p : Int × Int} (hp : es[i]? = some p) : nbr (es.take (i + 1)) h = nbr (es.take i) h ++ nbe h p := by
  unfold nbr
  rw [List.take_add_one, hp, List.flatMap_append]
  congr 1
  show List.flatMap (nbe h) [p] = nbe h p
  rw [List.flatMap_cons, List.flatMap_nil, List.append_nil]
/-- drawn numbers -/
def nums0 (ns : List Int) (k p z : Int) : List Int := (irange 0 (nmany ns).toNat).map fun i => mix (cell ns k + 31 * i) p z
theorem nums0_len {ns : List Int} {k p z : Int} : ((nums0 ns k p z).length : Int) = nmany ns := by
  have := nmany_b ns
  unfold nums0
  rw [List.length_map, irange_len]; omega
theorem nums0_at {ns : List Int} {k p z h : Int} (hz : 0 < z) (h0 : 0 ≤ h) (h1 : h < nmany ns) : 0 ≤ at_ (nums0 ns k p z) h ∧ at_ (nums0 ns k p z) h < z := by
  unfold at_ nums0
  rw [getD_mapr (by omega)]
  exact ⟨mix_lo hz, mix_hi hz⟩
theorem map_get {α : Type} {f : α → PyData} {l : List α} {i : Nat} {d : PyData} (h : (l.map f)[i]? = some d) : ∃ a, l[i]? = some a ∧ d = f a ∧ i < l.length := by
  rw [List.getElem?_map] at h
  cases q : l[i]? with
  | none => rw [q] at h; cases h
  | some a =>
    rw [q] at h
    exact ⟨a, rfl, (Option.some.inj h).symm, (List.getElem?_eq_some_iff.mp q).1⟩
theorem at_nat {ns : List Int} {i : Nat} (h1 : i < ns.length) : atI (ns.map PyData.int) (i : Int) = some (.int (ns.getD i 0)) := by
  have := at_nn (ns := ns) (i := (i : Int)) (by omega) (by omega)
  rw [Int.toNat_natCast] at this
  exact this
end Od

namespace Od
open PySem PySem.Spec PyProof.Rows L2

/-! ### distances -/
def minL (x : Int) (l : List Int) : Int := l.foldl min x
theorem minL_le : ∀ {l : List Int} {x : Int}, minL x l ≤ x ∧ ∀ y ∈ l, minL x l ≤ y
  | [], x => ⟨Int.le_refl _, fun _ h => by cases h⟩
  | a :: l, x => by
    have ih := minL_le (l := l) (x := min x a)
    show minL (min x a) l ≤ x ∧ ∀ y ∈ a :: l, minL (min x a) l ≤ y
    refine ⟨by omega, fun y hy => ?_⟩
    rcases List.mem_cons.mp hy with rfl | hy
    · omega
    · exact ih.2 y hy
theorem minL_mem : ∀ {l : List Int} {x : Int}, minL x l = x ∨ minL x l ∈ l
  | [], x => .inl rfl
  | a :: l, x => by
    show minL (min x a) l = x ∨ minL (min x a) l ∈ a :: l
    rcases minL_mem (l := l) (x := min x a) with h | h
    · rw [h]
      by_cases q : x ≤ a
      · exact .inl (by omega)
      · exact .inr (by rw [show min x a = a by omega]; exact List.mem_cons_self)
    · exact .inr (List.mem_cons_of_mem _ h)
/-- the number that is right for a hand -/
def right (m : Int) (es : List (Int × Int)) (xs : List Int) (h : Int) : Int := if h = 0 then 0 else minL m ((nb es h).map fun x => 1 + at_ xs x)
theorem right_le {m : Int} {es : List (Int × Int)} {xs : List Int} {h : Int} (hm : 0 ≤ m) : right m es xs h ≤ m := by
  unfold right
  split
  · exact hm
  · exact minL_le.1
theorem right_nb {m : Int} {es : List (Int × Int)} {xs : List Int} {h x : Int} (h0 : h ≠ 0) (hx : x ∈ nb es h) : right m es xs h ≤ 1 + at_ xs x := by
  unfold right
  rw [if_neg h0]
  exact minL_le.2 _ (List.mem_map.mpr ⟨x, hx, rfl⟩)
theorem right_mem {m : Int} {es : List (Int × Int)} {xs : List Int} {h : Int} (h0 : h ≠ 0) : right m es xs h = m ∨ ∃ x ∈ nb es h, right m es xs h = 1 + at_ xs x := by
  unfold right
  rw [if_neg h0]
  rcases minL_mem (l := (nb es h).map fun x => 1 + at_ xs x) (x := m) with q | q
  · exact .inl q
  · obtain ⟨x, hx, e⟩ := List.mem_map.mp q
    exact .inr ⟨x, hx, e.symm⟩
/-- numbers of the net: from 0 to m; right everywhere -/
structure Nums (m : Int) (xs : List Int) : Prop where
  len : (xs.length : Int) = m
  val : ∀ h, 0 ≤ h → h < m → 0 ≤ at_ xs h ∧ at_ xs h ≤ m
def Right (m : Int) (es : List (Int × Int)) (xs : List Int) : Prop := ∀ h, 0 ≤ h → h < m → at_ xs h = right m es xs h
theorem ext_at {m : Int} {xs ys : List Int} (h1 : (xs.length : Int) = m) (h2 : (ys.length : Int) = m) (h : ∀ i, 0 ≤ i → i < m → at_ xs i = at_ ys i) : xs = ys :=
  ext_getD (by omega) fun i hi => by
    have := h (i : Int) (by omega) (by omega)
    unfold at_ at this
    rw [Int.toNat_natCast] at this
    exact this
section
variable {m : Int} {es : List (Int × Int)} {xs ys d : List Int}
theorem right_low (N : Net m es) (hx : Nums m xs) (rx : Right m es xs) (ry : Right m es ys) (hy : Nums m ys) : ∀ k : Nat, (k : Int) < m → ∀ h, 0 ≤ h → h < m → at_ xs h = k → at_ ys h ≤ k
  | 0, _, h, h0, h1, e => by
    by_cases z : h = 0
    · subst z
      rw [ry 0 h0 h1]; unfold right; rw [if_pos rfl]; omega
    · rcases right_mem (m := m) (es := es) (xs := xs) z with q | ⟨x, hxm, q⟩
      · have := rx h h0 h1; omega
      · have := rx h h0 h1
        have nb1 := N.nb hxm
        have := hx.val x nb1.1 nb1.2.1
        omega
  | k + 1, hk, h, h0, h1, e => by
    have z : h ≠ 0 := fun z => by
      have := rx h h0 h1
      unfold right at this
      rw [if_pos z] at this
      omega
    rcases right_mem (m := m) (es := es) (xs := xs) z with q | ⟨x, hxm, q⟩
    · have := rx h h0 h1; omega
    · have := rx h h0 h1
      have nb1 := N.nb hxm
      have e2 : at_ xs x = k := by omega
      have ih := right_low N hx rx ry hy k (by omega) x nb1.1 nb1.2.1 e2
      have := right_nb (m := m) (xs := ys) z hxm
      have := ry h h0 h1
      omega
/-- only one is right everywhere -/
theorem right_uniq (N : Net m es) (hx : Nums m xs) (hy : Nums m ys) (rx : Right m es xs) (ry : Right m es ys) : xs = ys :=
  ext_at hx.len hy.len fun h h0 h1 => by
    have vx := hx.val h h0 h1
    have vy := hy.val h h0 h1
    by_cases a : at_ xs h < m
    · have q1 := right_low N hx rx ry hy (at_ xs h).toNat (by omega) h h0 h1 (by omega)
      have q2 := right_low N hy ry rx hx (at_ ys h).toNat (by omega) h h0 h1 (by omega)
      omega
    · by_cases b : at_ ys h < m
      · have q2 := right_low N hy ry rx hx (at_ ys h).toNat (by omega) h h0 h1 (by omega)
        omega
      · omega
/-! #### distances there are: by steps -/
def reach (es : List (Int × Int)) : Nat → Int → Bool
  | 0, h => decide (h = 0)
  | k + 1, h => (nb es h).any (reach es k)
def firstR (es : List (Int × Int)) (h : Int) (n : Nat) : Nat := ((List.range n).find? fun k => reach es k h).getD n
def dist (m : Int) (es : List (Int × Int)) : List Int := (irange 0 m.toNat).map fun h => (firstR es h m.toNat : Int)
theorem firstR_le {h : Int} {n : Nat} : firstR es h n ≤ n := by
  unfold firstR
  cases q : (List.range n).find? fun k => reach es k h with
  | none => exact Nat.le_refl _
  | some k =>
    have := List.mem_range.mp (List.mem_of_find?_eq_some q)
    show k ≤ n
    omega
theorem firstR_lt {h : Int} {n : Nat} (hl : firstR es h n < n) : reach es (firstR es h n) h = true := by
  unfold firstR at hl ⊢
  cases q : (List.range n).find? fun k => reach es k h with
  | none => rw [q] at hl; exact absurd hl (Nat.lt_irrefl _)
  | some k =>
    have h1 := List.find?_some q
    exact h1
theorem firstR_min {h : Int} {n k : Nat} (hr : reach es k h = true) : firstR es h n ≤ k := by
  by_cases hk : k < n
  · unfold firstR
    cases q : (List.range n).find? fun k => reach es k h with
    | none =>
      have := List.find?_eq_none.mp q k (List.mem_range.mpr hk)
      exact absurd hr this
    | some j =>
      show j ≤ k
      refine Decidable.byContradiction fun hj => ?_
      obtain ⟨_, as, bs, e, hno⟩ := List.find?_eq_some_iff_append.mp q
      have hkj : k ∈ as := by
        have h1 : (List.range n)[k]? = some k := List.getElem?_range hk
        have hja : as.length = j := by
          have h2 : (List.range n)[as.length]? = some j := by rw [e, List.getElem?_append_right (Nat.le_refl _), Nat.sub_self]; rfl
          have h3 : as.length < n := by
            have := (List.getElem?_eq_some_iff.mp h2).1
            rw [List.length_range] at this
            exact this
          rw [List.getElem?_range h3] at h2
          exact Option.some.inj h2
        rw [e, List.getElem?_append_left (by omega)] at h1
        exact List.mem_of_getElem? h1
      have := hno k hkj
      rw [hr] at this
      exact absurd this (by decide)
  · have := firstR_le (es := es) (h := h) (n := n)
    omega
theorem dist_at (hm : 0 ≤ m) {h : Int} (h0 : 0 ≤ h) (h1 : h < m) : at_ (dist m es) h = (firstR es h m.toNat : Int) := by
  unfold at_ dist
  rw [getD_mapr (by omega), Int.toNat_of_nonneg h0]
theorem dist_nums (hm : 0 ≤ m) : Nums m (dist m es) := by
  refine ⟨by unfold dist; rw [List.length_map, irange_len]; omega, fun h h0 h1 => ?_⟩
  rw [dist_at hm h0 h1]
  have := firstR_le (es := es) (h := h) (n := m.toNat)
  omega
theorem dist_right (N : Net m es) : Right m es (dist m es) := fun h h0 h1 => by
  have hm : 0 ≤ m := by have := N.lo; omega
  rw [dist_at hm h0 h1]
  by_cases z : h = 0
  · have : firstR es h m.toNat ≤ 0 := firstR_min (by subst z; rfl)
    unfold right
    rw [if_pos z]; omega
  · refine Int.le_antisymm ?_ ?_
    · rcases right_mem (m := m) (es := es) (xs := dist m es) z with q | ⟨x, hx, q⟩
      · have := firstR_le (es := es) (h := h) (n := m.toNat)
        omega
      · have nb1 := N.nb hx
        rw [q, dist_at hm nb1.1 nb1.2.1]
        by_cases hl : firstR es x m.toNat < m.toNat
        · have r1 := firstR_lt hl
          have r2 : reach es (firstR es x m.toNat + 1) h = true := by
            show (nb es h).any _ = true
            exact List.any_eq_true.mpr ⟨x, hx, r1⟩
          have := firstR_min (n := m.toNat) r2
          omega
        · have := firstR_le (es := es) (h := h) (n := m.toNat)
          omega
    · by_cases hl : firstR es h m.toNat < m.toNat
      · have r1 := firstR_lt hl
        cases q : firstR es h m.toNat with
        | zero =>
          rw [q] at r1
          exact absurd (of_decide_eq_true r1) z
        | succ k =>
          rw [q] at r1
          obtain ⟨x, hx, r2⟩ := List.any_eq_true.mp (show (nb es h).any (reach es k) = true from r1)
          have nb1 := N.nb hx
          have h2 := firstR_min (n := m.toNat) r2
          have h3 := right_nb (m := m) (xs := dist m es) z hx
          rw [dist_at hm nb1.1 nb1.2.1] at h3
          omega
      · have := right_le (m := m) (es := es) (xs := dist m es) (h := h) hm
        omega
/-! #### rounds -/
def mended (m : Int) (es : List (Int × Int)) (xs : List Int) (h : Int) : List Int := xs.set h.toNat (right m es xs h)
def wrong (m : Int) (es : List (Int × Int)) (xs : List Int) : List Int := (irange 0 m.toNat).filter fun h => !decide (at_ xs h = right m es xs h)
theorem at_set {h k v : Int} (h0 : 0 ≤ h) (h1 : h < (xs.length : Int)) (k0 : 0 ≤ k) : at_ (xs.set h.toNat v) k = if k = h then v else at_ xs k := by
  unfold at_
  rw [getD_set (by omega)]
  by_cases e : k = h
  · rw [if_pos e, if_pos (by omega)]
  · rw [if_neg e, if_neg (by omega)]
theorem right_lo (N : Net m es) (hx : Nums m xs) {h : Int} : 0 ≤ right m es xs h := by
  have := N.lo
  by_cases z : h = 0
  · unfold right; rw [if_pos z]; exact Int.le_refl _
  · rcases right_mem (m := m) (es := es) (xs := xs) z with q | ⟨x, hxm, q⟩
    · omega
    · have nb1 := N.nb hxm
      have := hx.val x nb1.1 nb1.2.1
      omega
theorem mended_nums (N : Net m es) (hx : Nums m xs) {h : Int} (h0 : 0 ≤ h) (h1 : h < m) : Nums m (mended m es xs h) := by
  have hl := hx.len
  refine ⟨by unfold mended; rw [List.length_set]; exact hl, fun k k0 k1 => ?_⟩
  unfold mended
  rw [at_set h0 (by omega) k0]
  by_cases e : k = h
  · rw [if_pos e]
    exact ⟨right_lo N hx, right_le (by omega)⟩
  · rw [if_neg e]; exact hx.val k k0 k1
theorem wrong_nil (hm : 0 ≤ m) : wrong m es xs = [] ↔ Right m es xs := by
  unfold wrong
  rw [List.filter_eq_nil_iff]
  constructor
  · intro h k k0 k1
    have := h k (irange_mem.mpr ⟨k0, by omega⟩)
    exact Decidable.byContradiction fun q => this (by rw [decide_eq_false q]; rfl)
  · intro h k hk
    have := irange_mem.mp hk
    rw [h k (by omega) (by omega), decide_eq_true rfl]
    decide
/-- a hand's number is right below t, and not below t elsewhere -/
def Ok (d xs : List Int) (t h : Int) : Prop := (at_ d h < t → at_ xs h = at_ d h) ∧ (t ≤ at_ d h → t ≤ at_ xs h)
theorem mend_ok (N : Net m es) (hd : Nums m d) (rd : Right m es d) (hx : Nums m xs) {t h : Int} (t0 : 0 ≤ t) (t1 : t < m) (h0 : 0 ≤ h) (h1 : h < m) (ok : ∀ k, 0 ≤ k → k < m → Ok d xs t k) : at_ (mended m es xs h) h = right m es xs h ∧ Ok d (mended m es xs h) (t + 1) h := by
  have hl := hx.len
  have e : at_ (mended m es xs h) h = right m es xs h := by unfold mended; rw [at_set h0 (by omega) h0, if_pos rfl]
  refine ⟨e, ?_⟩
  unfold Ok
  rw [e]
  have r := rd h h0 h1
  by_cases z : h = 0
  · have e1 : at_ d h = 0 := by rw [r]; unfold right; rw [if_pos z]
    have e2 : right m es xs h = 0 := by unfold right; rw [if_pos z]
    omega
  · refine ⟨fun hlt => ?_, fun hge => ?_⟩
    · rcases right_mem (m := m) (es := es) (xs := d) z with q | ⟨x, hxm, q⟩
      · omega
      · have nb1 := N.nb hxm
        have o := ok x nb1.1 nb1.2.1
        have e3 := o.1 (by omega)
        refine Int.le_antisymm ?_ ?_
        · have := right_nb (m := m) (xs := xs) z hxm; omega
        · rcases right_mem (m := m) (es := es) (xs := xs) z with q2 | ⟨y, hym, q2⟩
          · omega
          · have nb2 := N.nb hym
            have o2 := ok y nb2.1 nb2.2.1
            have := right_nb (m := m) (xs := d) z hym
            by_cases c : at_ d y < t
            · have := o2.1 c; omega
            · have := o2.2 (by omega); omega
    · rcases right_mem (m := m) (es := es) (xs := xs) z with q2 | ⟨y, hym, q2⟩
      · omega
      · have nb2 := N.nb hym
        have o2 := ok y nb2.1 nb2.2.1
        have := right_nb (m := m) (xs := d) z hym
        by_cases c : at_ d y < t
        · omega
        · have := o2.2 (by omega); omega
theorem Ok.weak {t h : Int} (o : Ok d xs (t + 1) h) : Ok d xs t h := by
  unfold Ok at *
  refine ⟨fun q => o.1 (by omega), fun q => ?_⟩
  by_cases c : at_ d h < t + 1
  · have := o.1 c; omega
  · have := o.2 (by omega); omega
end
end Od

namespace Od
open PySem PySem.Spec PyProof.Rows L2

/-! ### far: the hands in a row -/
abbrev ro (row : List Int) (i : Nat) : Int := row.getD i 0
structure Bfs (m : Int) (es : List (Int × Int)) (fd row : List Int) (k : Nat) : Prop where
  len : (fd.length : Int) = m
  nd : row.Nodup
  rg : ∀ x ∈ row, 0 ≤ x ∧ x < m
  first : 0 < row.length ∧ ro row 0 = 0
  out : ∀ h, 0 ≤ h → h < m → h ∉ row → at_ fd h = m
  mono : ∀ i j, i ≤ j → j < row.length → at_ fd (ro row i) ≤ at_ fd (ro row j)
  top : k < row.length → ∀ i, i < row.length → at_ fd (ro row i) ≤ at_ fd (ro row k) + 1
  idx : ∀ i : Nat, i < row.length → 0 ≤ at_ fd (ro row i) ∧ at_ fd (ro row i) ≤ i
  par : ∀ x ∈ row, x ≠ 0 → ∃ p ∈ nb es x, p ∈ row ∧ at_ fd x = at_ fd p + 1
  done : ∀ i, i < k → ∀ n ∈ nb es (ro row i), n ∈ row ∧ at_ fd n ≤ at_ fd (ro row i) + 1
  le : k ≤ row.length
theorem ro_mem {row : List Int} {i : Nat} (h : i < row.length) : ro row i ∈ row := getD_mem h
theorem ro_app {row : List Int} {i : Nat} {x : Int} (h : i < row.length) : ro (row ++ [x]) i = ro row i := by
  unfold ro
  rw [List.getD_eq_getElem?_getD, List.getD_eq_getElem?_getD, List.getElem?_append_left h]
theorem ro_last {row : List Int} {x : Int} : ro (row ++ [x]) row.length = x := by
  unfold ro
  rw [List.getD_eq_getElem?_getD, List.getElem?_append_right (Nat.le_refl _), Nat.sub_self]; rfl
theorem ro_ix {row : List Int} {x : Int} (h : x ∈ row) : ∃ i, i < row.length ∧ ro row i = x := by
  obtain ⟨i, hi, e⟩ := List.mem_iff_getElem.mp h
  exact ⟨i, hi, by unfold ro; rw [List.getD_eq_getElem?_getD, List.getElem?_eq_getElem hi]; exact e⟩
section
variable {m : Int} {es : List (Int × Int)} {fd row : List Int} {k : Nat}
theorem Bfs.row_le (B : Bfs m es fd row k) : (row.length : Int) ≤ m := by
  have h1 := B.rg 0 (by have := ro_mem B.first.1; rw [B.first.2] at this; exact this)
  have := nodup_len (n := m.toNat) B.nd fun x hx => by have := B.rg x hx; omega
  omega
theorem bfs_start (N : Net m es) {f0 : List Int} (hl : (f0.length : Int) = m) (h0 : at_ f0 0 = 0) (hm : ∀ h, 1 ≤ h → h < m → at_ f0 h = m) : Bfs m es f0 [0] 0 := by
  have := N.lo
  refine ⟨hl, (List.pairwise_singleton _ _), fun x hx => ?_, ⟨by simp, rfl⟩, fun h a b c => ?_, fun i j hij hj => ?_, fun _ i hi => ?_, fun i hi => ?_, fun x hx z => ?_, fun i hi => ?_, by simp⟩
  · rw [List.mem_singleton] at hx; omega
  · rw [List.mem_singleton] at c
    exact hm h (by omega) b
  · rw [List.length_singleton] at hj
    rw [show i = 0 by omega, show j = 0 by omega]; exact Int.le_refl _
  · rw [List.length_singleton] at hi
    rw [show i = 0 by omega]; omega
  · rw [List.length_singleton] at hi
    rw [show i = 0 by omega]
    show 0 ≤ at_ f0 0 ∧ at_ f0 0 ≤ 0
    omega
  · rw [List.mem_singleton] at hx; exact absurd hx z
  · omega
theorem Bfs.add (N : Net m es) (B : Bfs m es fd row k) (hk : k < row.length) {x : Int} (hx : x ∈ nb es (ro row k)) (hn : x ∉ row) :
    Bfs m es (fd.set x.toNat (at_ fd (ro row k) + 1)) (row ++ [x]) k ∧ ∀ y ∈ row, at_ (fd.set x.toNat (at_ fd (ro row k) + 1)) y = at_ fd y := by
  have nb1 := N.nb hx
  have hl := B.len
  have keep : ∀ y ∈ row, at_ (fd.set x.toNat (at_ fd (ro row k) + 1)) y = at_ fd y := fun y hy => by
    rw [at_set nb1.1 (by omega) (B.rg y hy).1, if_neg (fun (e : y = x) => hn (by rw [← e]; exact hy))]
  have new : at_ (fd.set x.toNat (at_ fd (ro row k) + 1)) x = at_ fd (ro row k) + 1 := by rw [at_set nb1.1 (by omega) nb1.1, if_pos rfl]
  have keepi : ∀ i, i < row.length → at_ (fd.set x.toNat (at_ fd (ro row k) + 1)) (ro (row ++ [x]) i) = at_ fd (ro row i) := fun i hi => by
    rw [ro_app hi]; exact keep _ (ro_mem hi)
  have lastv : at_ (fd.set x.toNat (at_ fd (ro row k) + 1)) (ro (row ++ [x]) row.length) = at_ fd (ro row k) + 1 := by rw [ro_last]; exact new
  have hlen : (row ++ [x]).length = row.length + 1 := by rw [List.length_append]; rfl
  have f1 := B.first
  refine ⟨⟨by rw [List.length_set]; exact hl, ?_, fun y hy => ?_, ⟨by omega, by rw [ro_app f1.1]; exact f1.2⟩, fun h a b c => ?_, fun i j hij hj => ?_, fun _ i hi => ?_, fun i hi => ?_, fun y hy z => ?_, fun i hi n hnn => ?_, by omega⟩, keep⟩
  · rw [List.nodup_append]
    refine ⟨B.nd, (List.pairwise_singleton _ _), fun a ha b hb => ?_⟩
    rw [List.mem_singleton] at hb
    subst hb
    exact fun e => hn (by rw [← e]; exact ha)
  · rcases List.mem_append.mp hy with q | q
    · exact B.rg y q
    · rw [List.mem_singleton] at q; subst q; exact ⟨nb1.1, nb1.2.1⟩
  · have c1 : h ∉ row := fun q => c (List.mem_append_left _ q)
    have c2 : h ≠ x := fun q => c (List.mem_append_right _ (by rw [q]; exact List.mem_cons_self))
    rw [at_set nb1.1 (by omega) a, if_neg c2]
    exact B.out h a b c1
  · by_cases q : j = row.length
    · subst q
      rw [lastv]
      by_cases q2 : i = row.length
      · rw [q2, lastv]; exact Int.le_refl _
      · rw [keepi i (by omega)]
        exact B.top hk i (by omega)
    · rw [keepi i (by omega), keepi j (by omega)]
      exact B.mono i j hij (by omega)
  · rw [keepi k hk]
    by_cases q : i = row.length
    · rw [q, lastv]; exact Int.le_refl _
    · rw [keepi i (by omega)]
      exact B.top hk i (by omega)
  · by_cases q : i = row.length
    · rw [q, lastv]
      have := B.idx k hk
      omega
    · rw [keepi i (by omega)]
      exact B.idx i (by omega)
  · rcases List.mem_append.mp hy with q | q
    · obtain ⟨p, h1, h2, h3⟩ := B.par y q z
      exact ⟨p, h1, List.mem_append_left _ h2, by rw [keep y q, keep p h2]; exact h3⟩
    · rw [List.mem_singleton] at q
      subst q
      exact ⟨ro row k, nb_sym.mp hx, List.mem_append_left _ (ro_mem hk), by rw [new, keep _ (ro_mem hk)]⟩
  · rw [ro_app (by omega)] at hnn
    obtain ⟨h1, h2⟩ := B.done i hi n hnn
    exact ⟨List.mem_append_left _ h1, by rw [keep n h1, keepi i (by omega)]; exact h2⟩
theorem Bfs.step (B : Bfs m es fd row k) (hk : k < row.length) (h : ∀ n ∈ nb es (ro row k), n ∈ row ∧ at_ fd n ≤ at_ fd (ro row k) + 1) : Bfs m es fd row (k + 1) := by
  refine ⟨B.len, B.nd, B.rg, B.first, B.out, B.mono, fun q i hi => ?_, B.idx, B.par, fun i hi n hn => ?_, hk⟩
  · have h1 := B.top hk i hi
    have h2 := B.mono k (k + 1) (by omega) q
    omega
  · by_cases e : i = k
    · rw [e] at hn ⊢; exact h n hn
    · exact B.done i (by omega) n hn
theorem Bfs.fin (N : Net m es) (B : Bfs m es fd row row.length) : fd = dist m es := by
  have hm := N.lo
  have hrow := B.row_le
  have z0 : at_ fd 0 = 0 := by
    have := B.idx 0 B.first.1
    rw [B.first.2] at this
    omega
  have zr : (0 : Int) ∈ row := by have := ro_mem B.first.1; rw [B.first.2] at this; exact this
  have small : ∀ x ∈ row, 0 ≤ at_ fd x ∧ at_ fd x < m := fun x hx => by
    obtain ⟨i, hi, e⟩ := ro_ix hx
    have := B.idx i hi
    rw [e] at this
    omega
  have cl : ∀ x ∈ row, ∀ n ∈ nb es x, n ∈ row ∧ at_ fd n ≤ at_ fd x + 1 := fun x hx n hn => by
    obtain ⟨i, hi, e⟩ := ro_ix hx
    have := B.done i hi n (by rw [e]; exact hn)
    rw [e] at this
    exact this
  refine right_uniq N ⟨B.len, fun h h0 h1 => ?_⟩ (dist_nums (by omega)) (fun h h0 h1 => ?_) (dist_right N)
  · by_cases q : h ∈ row
    · have := small h q; omega
    · have := B.out h h0 h1 q; omega
  · by_cases z : h = 0
    · subst z
      rw [z0]; unfold right; rw [if_pos rfl]
    · by_cases q : h ∈ row
      · obtain ⟨p, h2, h3, h4⟩ := B.par h q z
        refine Int.le_antisymm ?_ ?_
        · rcases right_mem (m := m) (es := es) (xs := fd) z with q2 | ⟨y, hy, q2⟩
          · have := small h q; omega
          · have hyr := (cl h q y hy).1
            have := (cl y hyr h (nb_sym.mp hy)).2
            omega
        · have := right_nb (m := m) (xs := fd) z h2
          omega
      · have e := B.out h h0 h1 q
        refine Int.le_antisymm ?_ (by have := right_le (m := m) (es := es) (xs := fd) (h := h) (by omega); omega)
        rcases right_mem (m := m) (es := es) (xs := fd) z with q2 | ⟨y, hy, q2⟩
        · omega
        · have nb1 := N.nb hy
          by_cases q3 : y ∈ row
          · exact absurd (cl y q3 h (nb_sym.mp hy)).1 q
          · have := B.out y nb1.1 nb1.2.1 q3
            omega
/-! ### the law's own distances: all edges, many times -/
structure Bf (m : Int) (es : List (Int × Int)) (v : List Int) : Prop where
  len : (v.length : Int) = m
  z : at_ v 0 = 0
  lo : ∀ h, 0 ≤ h → h < m → at_ (dist m es) h ≤ at_ v h
  hi : ∀ h, 0 ≤ h → h < m → at_ v h ≤ m
def mn (i j : Int) : Int := if j < i then j else i
def relax (v : List Int) (a b : Int) : List Int := v.set a.toNat (mn (at_ v a) (at_ v b + 1))
theorem Bf.relax (N : Net m es) {v : List Int} (B : Bf m es v) {a b : Int} (hb : b ∈ nb es a) : Bf m es (relax v a b) ∧ (∀ h, 0 ≤ h → h < m → at_ (Od.relax v a b) h ≤ at_ v h) ∧ at_ (Od.relax v a b) a ≤ at_ v b + 1 := by
  have nb1 := N.nb hb
  have hl := B.len
  have hm := N.lo
  have e : ∀ h, 0 ≤ h → at_ (Od.relax v a b) h = if h = a then mn (at_ v a) (at_ v b + 1) else at_ v h := fun h h0 => by
    unfold Od.relax
    rw [at_set (by omega) (by omega) h0]
  have db := B.lo b nb1.1 nb1.2.1
  have d0 := (dist_nums (m := m) (es := es) (by omega)).val b nb1.1 nb1.2.1
  refine ⟨⟨by unfold Od.relax; rw [List.length_set]; exact hl, ?_, fun h h0 h1 => ?_, fun h h0 h1 => ?_⟩, fun h h0 h1 => ?_, ?_⟩
  · rw [e 0 (by omega)]
    split
    · rename_i q
      have := B.z
      rw [← q, this]; unfold mn
      rw [if_neg (by omega)]
    · exact B.z
  · rw [e h h0]
    split
    · rename_i q
      subst q
      have h2 := B.lo h h0 h1
      unfold mn
      split
      · by_cases z : h = 0
        · have r := dist_right N h h0 h1
          unfold right at r
          rw [if_pos z] at r
          omega
        · have r := dist_right N h h0 h1
          have := right_nb (m := m) (xs := dist m es) z hb
          omega
      · exact h2
    · exact B.lo h h0 h1
  · rw [e h h0]
    split
    · rename_i q
      subst q
      have := B.hi h h0 h1
      unfold mn
      split <;> omega
    · exact B.hi h h0 h1
  · rw [e h h0]
    split
    · rename_i q
      subst q
      unfold mn
      split <;> omega
    · exact Int.le_refl _
  · rw [e a (by omega), if_pos rfl]
    unfold mn
    split <;> omega
/-- all that is nearer than t is right -/
def BfT (m : Int) (es : List (Int × Int)) (t : Int) (v : List Int) : Prop := ∀ h, 0 ≤ h → h < m → at_ (dist m es) h < m → at_ (dist m es) h < t → at_ v h = at_ (dist m es) h
/-- an edge has been looked at since v had all below t right -/
def BfE (m : Int) (es : List (Int × Int)) (t : Int) (v : List Int) (p : Int × Int) : Prop := (at_ (dist m es) p.1 < t → at_ v p.2 ≤ at_ (dist m es) p.1 + 1) ∧ (at_ (dist m es) p.2 < t → at_ v p.1 ≤ at_ (dist m es) p.2 + 1)
theorem BfT.dec {t : Int} {v u : List Int} (T : BfT m es t v) (B : Bf m es u) (hle : ∀ h, 0 ≤ h → h < m → at_ u h ≤ at_ v h) : BfT m es t u := fun h h0 h1 hm ht => by
  have := T h h0 h1 hm ht
  have := hle h h0 h1
  have := B.lo h h0 h1
  omega
theorem bf_edge (N : Net m es) {v : List Int} {t : Int} (B : Bf m es v) (T : BfT m es t v) (ht : t ≤ m) {p : Int × Int} (hp : p ∈ es) :
    Bf m es (relax (relax v p.1 p.2) p.2 p.1) ∧ BfT m es t (relax (relax v p.1 p.2) p.2 p.1) ∧ (∀ h, 0 ≤ h → h < m → at_ (relax (relax v p.1 p.2) p.2 p.1) h ≤ at_ v h) ∧ BfE m es t (relax (relax v p.1 p.2) p.2 p.1) p := by
  have hb : p.2 ∈ nb es p.1 := nb_mem.mpr (.inl hp)
  have ha : p.1 ∈ nb es p.2 := nb_sym.mp hb
  have na := N.nb ha
  have nb2 := N.nb hb
  obtain ⟨B1, l1, r1⟩ := B.relax N hb
  obtain ⟨B2, l2, r2⟩ := B1.relax N ha
  have T1 := T.dec B1 l1
  have T2 := T1.dec B2 l2
  refine ⟨B2, T2, fun h h0 h1 => Int.le_trans (l2 h h0 h1) (l1 h h0 h1), fun q => ?_, fun q => ?_⟩
  · have := T1 p.1 na.1 na.2.1 (by omega) q
    omega
  · have := T p.2 nb2.1 nb2.2.1 (by omega) q
    have := l2 p.1 na.1 na.2.1
    omega
theorem bf_round (N : Net m es) {v : List Int} {t : Int} (B : Bf m es v) (T : BfT m es t v) (t0 : 0 ≤ t) (E : ∀ p ∈ es, BfE m es t v p) : BfT m es (t + 1) v := fun h h0 h1 hm ht => by
  by_cases c : at_ (dist m es) h < t
  · exact T h h0 h1 hm c
  · have r := dist_right N h h0 h1
    by_cases z : h = 0
    · subst z
      have := B.z
      unfold right at r
      rw [if_pos rfl] at r
      omega
    · rcases right_mem (m := m) (es := es) (xs := dist m es) z with q2 | ⟨y, hy, q2⟩
      · omega
      · have l := B.lo h h0 h1
        rcases nb_mem.mp hy with q | q
        · have := (E _ q).2 (by show at_ (dist m es) y < t; omega)
          dsimp only at this
          omega
        · have := (E _ q).1 (by show at_ (dist m es) y < t; omega)
          dsimp only at this
          omega
theorem bf_fin (N : Net m es) {v : List Int} (B : Bf m es v) (T : BfT m es m v) : v = dist m es :=
  ext_at B.len (dist_nums (by have := N.lo; omega)).len fun h h0 h1 => by
    by_cases c : at_ (dist m es) h < m
    · exact T h h0 h1 c c
    · have := B.lo h h0 h1
      have := B.hi h h0 h1
      have := (dist_nums (m := m) (es := es) (by omega)).val h h0 h1
      omega
end
end Od

namespace Od
open PySem PySem.Spec PyProof.Rows L2

def F_right_number : List PyData → PyData → Prop := fun ds d => ∃ m es xs h, ds = [nD m es, tI xs, .int h] ∧ Net m es ∧ (xs.length : Int) = m ∧ d = .int (right m es xs h)
def F_wrong_far : List PyData → PyData → Prop := fun ds d => ∃ m es xs, ds = [nD m es, tI xs] ∧ Net m es ∧ (xs.length : Int) = m ∧ d = tI (wrong m es xs)
def F_mended_far : List PyData → PyData → Prop := fun ds d => ∃ m es xs h, ds = [nD m es, tI xs, .int h] ∧ Net m es ∧ (xs.length : Int) = m ∧ 0 ≤ h ∧ h < m ∧ d = tI (mended m es xs h)
def F_far : List PyData → PyData → Prop := fun ds d => ∃ m es, ds = [nD m es] ∧ Net m es ∧ d = tI (dist m es)
def F__law_far : List PyData → PyData → Prop := fun ds d => ∃ m es, ds = [nD m es] ∧ Net m es ∧ d = tI (dist m es)
theorem L_right_number : ∀ ds d, F_right_number ds d → ds.length = 3 := fun _ _ ⟨_, _, _, _, e, _⟩ => by rw [e]; rfl
theorem L_wrong_far : ∀ ds d, F_wrong_far ds d → ds.length = 2 := fun _ _ ⟨_, _, _, e, _⟩ => by rw [e]; rfl
theorem L_mended_far : ∀ ds d, F_mended_far ds d → ds.length = 3 := fun _ _ ⟨_, _, _, _, e, _⟩ => by rw [e]; rfl
theorem L_far : ∀ ds d, F_far ds d → ds.length = 1 := fun _ _ ⟨_, _, e, _⟩ => by rw [e]; rfl
theorem L__law_far : ∀ ds d, F__law_far ds d → ds.length = 1 := fun _ _ ⟨_, _, e, _⟩ => by rw [e]; rfl
section
variable {K : PySem.W.Frag} {r : Rho} {t ta tb tc : TE} {X : XK} {ns xs : List Int} {m h k v : Int} {es : List (Int × Int)}
theorem cv_right (h1 : EvD K ta r (nD m es)) (h2 : EvD K tb r (tI xs)) (h3 : EvD K tc r (.int h)) (N : Net m es) (hl : (xs.length : Int) = m) : EvD K (tCall (spR K F_right_number) [] X (tCons ta (tCons tb (tCons tc tNil)))) r (.int (right m es xs h)) := ev_call (ea_cons h1 (ea_cons h2 (ea_cons h3 ea_nil))) ⟨m, es, xs, h, rfl, N, hl, rfl⟩
theorem cv_wrong (h1 : EvD K ta r (nD m es)) (h2 : EvD K tb r (tI xs)) (N : Net m es) (hl : (xs.length : Int) = m) : EvD K (tCall (spR K F_wrong_far) [] X (tCons ta (tCons tb tNil))) r (tI (wrong m es xs)) := ev_call (ea_cons h1 (ea_cons h2 ea_nil)) ⟨m, es, xs, rfl, N, hl, rfl⟩
theorem cv_mended (h1 : EvD K ta r (nD m es)) (h2 : EvD K tb r (tI xs)) (h3 : EvD K tc r (.int h)) (N : Net m es) (hl : (xs.length : Int) = m) (h0 : 0 ≤ h) (hm : h < m) : EvD K (tCall (spR K F_mended_far) [] X (tCons ta (tCons tb (tCons tc tNil)))) r (tI (mended m es xs h)) := ev_call (ea_cons h1 (ea_cons h2 (ea_cons h3 ea_nil))) ⟨m, es, xs, h, rfl, N, hl, h0, hm, rfl⟩
theorem cv_far (h1 : EvD K ta r (nD m es)) (N : Net m es) : EvD K (tCall (spR K F_far) [] X (tCons ta tNil)) r (tI (dist m es)) := ev_call (ea_cons h1 ea_nil) ⟨m, es, rfl, N, rfl⟩
theorem cv_lawfar (h1 : EvD K ta r (nD m es)) (N : Net m es) : EvD K (tCall (spR K F__law_far) [] X (tCons ta tNil)) r (tI (dist m es)) := ev_call (ea_cons h1 ea_nil) ⟨m, es, rfl, N, rfl⟩
end
theorem relax_map {v : List Int} {a b : Int} : (v.map PyData.int).set a.toNat (.int (if at_ v b + 1 < at_ v a then at_ v b + 1 else at_ v a)) = (relax v a b).map PyData.int := by
  unfold relax mn
  rw [List.map_set]
theorem nums0_nums (ns : List Int) (k p : Int) : Nums (nmany ns) (nums0 ns k p (nmany ns + 1)) := by
  have := nmany_b ns
  refine ⟨nums0_len, fun h h0 h1 => ?_⟩
  have := nums0_at (ns := ns) (k := k) (p := p) (z := nmany ns + 1) (by omega) h0 h1
  omega
end Od

namespace Od
open PySem PySem.Spec PyProof.Rows L2

/-! ### tuple([xs.pop(i) for ..]) -/
theorem wipe_get {s : L2.St} {n : Nat} : ∀ {vs : List Nat}, n ∉ vs → (L2.wipe s vs)[n]? = s[n]?
  | [], _ => rfl
  | v :: vs, h => by
    show ((L2.wipe s vs).set v none)[n]? = s[n]?
    rw [List.getElem?_set_ne (fun z => h (by rw [z]; exact List.mem_cons_self)), wipe_get fun z => h (List.mem_cons_of_mem _ z)]
theorem wipeR_get {r : Rho} {n : Nat} : ∀ {vs : List Nat}, n ∉ vs → (wipeR r vs)[n]? = r[n]?
  | [], _ => rfl
  | v :: vs, h => by
    show ((wipeR r vs).set v .no)[n]? = r[n]?
    rw [List.getElem?_set_ne (fun z => h (by rw [z]; exact List.mem_cons_self)), wipeR_get fun z => h (List.mem_cons_of_mem _ z)]
theorem set_same' {α : Type} {l : List α} {n : Nat} {a : α} (h : l[n]? = some a) : l.set n a = l := by
  refine List.ext_getElem? fun i => ?_
  rw [List.getElem?_set]
  split
  · rename_i e
    subst e
    split
    · exact h.symm
    · rename_i q
      exact absurd (List.getElem?_eq_some_iff.mp h).1 q
  · rfl
section
variable {K : PySem.W.Frag} {H0 : Hp} {r : Rho} {W : EndD}
/-- an object that no slot refers to changes -/
theorem EnvS.mutO {B0 B H : Hp} {s : L2.St} (e : EnvS K B0 H0 B H s r) {p : Addr} {o : HO} {ys : List V} (h0 : H0 p = none) (hb : B p = none) (hl : H p = some (.lst ys)) (hn : ∀ {n : Nat} {ds : List PyData}, r[n]? = some (.ow ds) → s[n]? ≠ some (some (.ref p))) : EnvS K B0 H0 B (upd H p o) s r := by
  refine ⟨e.st.mut h0 hb hl, ⟨same_mut e.en.i hb, e.en.tb.mutL hl, e.en.len, e.en.im, fun {n ds} h => ?_, e.en.ne⟩, e.ow⟩
  obtain ⟨l, xs, h1, h2, h3, h4⟩ := e.en.ow h
  have : l ≠ p := fun z => hn h (by rw [← z]; exact h1)
  exact ⟨l, xs, h1, by rw [upd_ne this]; exact h2, h3, h4⟩
theorem wp_popRet {n gi : Nat} {wi : TI} {ti : TE} {vs : List Nat} {xs : List PyData} (L : Nat → List PyData) (P : Nat → PyData) (ix : Nat → Nat) (iv : Nat → Int)
    (hr : r[n]? = some (.ow (L 0))) (hnv : n ∉ vs) (hgi : gi ∈ vs) (hi : EvI K wi r xs) (hz : xs.length ≤ 100000)
    (hs : ∀ i d, xs[i]? = some d → EvD K ti ((wipeR (r.set n (.ow (L i))) vs).set gi (.im d)) (.int (iv i)) ∧ -(2 ^ 63) ≤ iv i ∧ iv i < 2 ^ 63 ∧ seqIndex? (iv i) (L i).length = some (ix i) ∧ (L i)[ix i]? = some (P i) ∧ L (i + 1) = (L i).eraseIdx (ix i))
    (q : W.rt (.tuple ((List.range xs.length).map P))) :
    WP K H0 (tRet (tCB (fun xs H Q => ∃ p ys, xs = [V.ref p] ∧ ((SqL K H p ys ∧ ∀ l, H l = none → Q (V.ref l) (upd H l (.tup ys))) ∨ (SqT K H p ys ∧ Q (V.ref p) H))) (tCons (tLc wi (gName gi) tYes (tBM K "list" rPopAt (tVar n) (tCons ti tNil)) vs) tNil))) r W := fun B0 B H s D E S => by
  obtain ⟨l, ys0, hl1, hl2, _, _⟩ := E.en.ow hr
  have hrn : n < r.length := (List.getElem?_eq_some_iff.mp hr).1
  have hng : n ≠ gi := fun z => hnv (z ▸ hgi)
  refine hi B H s E.en _ fun J B1 H1 x1 wk => ?_
  intro Dl hD
  have hlD : l ≠ Dl := ne_of_none (x1.h _ _ hl2) hD
  have hB1D : B1 Dl = none := x1.i.free hD
  have hH0D : H0 Dl = none := (E.st.trans x1).h.free hD
  have nref : ∀ (i : Nat) {m : Nat} {ds : List PyData}, (r.set n (.ow (L i)))[m]? = some (.ow ds) → s[m]? ≠ some (some (.ref Dl)) := fun i m ds h z => by
    rcases get_set h with ⟨rfl, _, _⟩ | ⟨_, h2⟩
    · rw [hl1] at z
      injection z with z1
      injection z1 with z2
      injection z2 with z3
      exact hlD z3
    · obtain ⟨l', ys', p1, p2, _⟩ := E.en.ow h2
      rw [z] at p1
      cases p1
      have := x1.h _ _ p2
      rw [hD] at this; cases this
  refine ⟨fun i m H' => m = xs.length - i ∧ i ≤ xs.length ∧ ∃ B' acc, EnvS K B0 H0 B' H' s (r.set n (.ow (L i))) ∧ Same B1 B' ∧ H' Dl = some (.lst acc) ∧ B' Dl = none ∧ DpAll K B' acc ((List.range i).map P),
    ⟨xs.length, by simp, Nat.zero_le _, B1, [], by rw [set_same' hr]; exact E.mono (x1.trans (.skip x1.i hD)), .refl _, upd_same, hB1D, .nil⟩, ?_⟩
  rintro i m H' ⟨rfl, hle, B', acc, E', sb, hh, hb, hd⟩
  by_cases hlt : i < xs.length
  · refine .inr ⟨wk.go i B' H' sb E'.en.i hlt, fun H2 => ∃ B2 acc2, EnvS K B0 H0 B2 H2 s (r.set n (.ow (L (i + 1)))) ∧ Same B1 B2 ∧ H2 Dl = some (.lst acc2) ∧ B2 Dl = none ∧ DpAll K B2 acc2 ((List.range (i + 1)).map P), fun H2 ⟨B2, acc2, q⟩ => ⟨xs.length - (i + 1), by omega, rfl, hlt, B2, acc2, q⟩, fun x H2 y => ?_⟩
    obtain ⟨d, B2, q1, q2, q3⟩ := wk.yld i B' H' x H2 sb E'.en.i y hlt
    obtain ⟨hti, b1, b2, hsi, hLi, hL1⟩ := hs i d q1
    have E2 := E'.mono q2
    have hrn2 : (r.set n (.ow (L i)))[n]? = some (.ow (L i)) := List.getElem?_set_self hrn
    obtain ⟨l2, ys, p1, p2, p3, p4⟩ := E2.en.ow hrn2
    rw [hl1] at p1
    injection p1 with p1
    injection p1 with p1
    injection p1 with p1
    subst p1
    have ER := (E2.en.wipe vs).set_im (n := gi) q3
    refine ⟨by rw [wipe_set hgi, wipe_idem], ?_⟩
    refine ⟨.ref l, by rw [List.getElem?_set_ne (fun z => hng z.symm), wipe_get hnv]; exact hl1, .inl ⟨rfl, ys, .of p2⟩, ?_⟩
    refine hti B2 H2 _ ER _ fun w B3 H3 x3 hw => ?_
    cases hw
    have p3' := dpa_mono x3.b _ _ p3
    obtain ⟨v, hv1, hv2⟩ := dpa_get p3' hLi
    have hD2 : H2 Dl = some (.lst acc) := q2.h _ _ hh
    have hD3 : H3 Dl = some (.lst acc) := x3.h _ _ hD2
    have hB2 : B2 Dl = none := q2.f Dl hb (by rw [hh]; exact fun z => nomatch z)
    have hB3 : B3 Dl = none := x3.f Dl hB2 (by rw [hD2]; exact fun z => nomatch z)
    refine ⟨l, ys, iv i, ix i, v, rfl, rfl, x3.h _ _ p2, b1, b2, by rw [dpa_len p3]; exact hsi, hv1, ?_⟩
    have hDl : Dl ≠ l := fun z => hlD z.symm
    refine ⟨acc, by rw [upd_ne hDl]; exact hD3, ?_, ?_⟩
    · rw [dpa_len hd, List.length_map, List.length_range]
      exact Nat.lt_of_lt_of_le (by omega : i < 100000) (by decide)
    have E3 := ((E2.mono x3).mut hrn2 hl1 (xs := ys.eraseIdx (ix i)) (ds' := L (i + 1)) (by rw [hL1]; exact dpa_erase _ p3'))
    rw [List.set_set] at E3
    refine ⟨B3, acc ++ [v], E3.mutO hH0D hB3 (by rw [upd_ne hDl]; exact hD3) (nref (i + 1)), (sb.trans q2.b).trans x3.b, upd_same, hB3, ?_⟩
    rw [List.range_succ, List.map_append]
    exact dpa_app (dpa_mono (q2.b.trans x3.b) _ _ hd) (.cons hv2 .nil)
  · have e : i = xs.length := by omega
    subst e
    refine .inl ⟨wk.stop B' H' sb E'.en.i, ?_⟩
    exact ⟨Dl, acc, rfl, .inl ⟨.of hh, fun p hp => S.rt _ _ _ _ q (E'.st.trans (.new E'.en.i hp)) (.tup (.of upd_same) (dpa_mono (same_new (E'.en.i.free hp)) _ _ hd))⟩⟩
end
theorem pe_bmK {X : Cx} {K : PySem.W.Frag} {o e : Expr} {es : List Expr} {to : TE} {t : TA} {name : Str} {apos cpos : Pos} {T id : String} {r : V → List V → Hp → VK → Prop} (h : X.K = K) (pa : PlainAttrs T) (slot : Slot T name id) (hty : typeOf (.builtin id) = pure (.type "method_descriptor")) (hm : MtR X id r) (ho : PE X o to) (ha : PA X (e :: es) t)
    (hbase : attributeBase o name X.env (eval o X.env) = eval o X.env := by rfl)
    (hfew : ((backTo cpos (starEach (e :: es) X.env)).all (fun x => !x.1) && (backToKw cpos (keywordEach [] X.env)).all (fun x => x.1.isSome)
      && decide ((e :: es).length + ([] : List Keyword).length + (if ([] : List Keyword).isEmpty then 0 else 1) < 30)) = true := by rfl)
    (hline : (apos.endLine == cpos.line) = true := by rfl) (hs : starEach (e :: es) X.env = (false, eval e X.env) :: starEach es X.env := by rfl) (hplain : (backTo cpos (starEach es X.env)).any (·.1) = false := by rfl) :
    PE X (.Call (.Attribute o name apos) (e :: es) [] cpos) (tBM K T r to t) := h ▸ pe_bm pa slot hty hm ho ha hbase hfew hline hs hplain
theorem erase_map {α β : Type} {f : α → β} : ∀ {l : List α} {i : Nat}, (l.eraseIdx i).map f = (l.map f).eraseIdx i
  | [], _ => rfl
  | _ :: _, 0 => rfl
  | a :: l, i + 1 => congrArg (f a :: ·) (erase_map (l := l) (i := i))
/-! ### the drawn order -/
theorem erase_perm : ∀ {l : List Int} {i : Nat}, i < l.length → (l.getD i 0 :: l.eraseIdx i).Perm l
  | [], _, h => absurd h (Nat.not_lt_zero _)
  | a :: l, 0, _ => .refl _
  | a :: l, i + 1, h => (List.Perm.swap a (l.getD i 0) (l.eraseIdx i)).trans (.cons a (erase_perm (Nat.lt_of_succ_lt_succ h)))
def pIx (c m : Int) (k : Nat) : Nat := (mix (c + 5 * k) 9941 (m - k)).toNat
def pLeft (c m : Int) : Nat → List Int
  | 0 => irange 0 m.toNat
  | k + 1 => (pLeft c m k).eraseIdx (pIx c m k)
def pPop (c m : Int) (k : Nat) : Int := (pLeft c m k).getD (pIx c m k) 0
def permL (c m : Int) : List Int := (List.range m.toNat).map (pPop c m)
section
variable {c m : Int}
theorem pIx_lt {k : Nat} (h : (k : Int) < m) : (pIx c m k : Int) < m - k := by
  unfold pIx
  have h1 := mix_lo (c := c + 5 * k) (p := 9941) (m := m - k) (by omega)
  have h2 := mix_hi (c := c + 5 * k) (p := 9941) (m := m - k) (by omega)
  omega
theorem pLeft_len : ∀ {k : Nat}, (k : Int) ≤ m → ((pLeft c m k).length : Int) = m - k
  | 0, h => by unfold pLeft; rw [irange_len]; omega
  | k + 1, h => by
    have ih := pLeft_len (k := k) (by omega)
    have := pIx_lt (c := c) (m := m) (k := k) (by omega)
    unfold pLeft
    rw [List.length_eraseIdx, if_pos (by omega)]
    omega
theorem perm_inv : ∀ {k : Nat}, (k : Int) ≤ m → ((List.range k).map (pPop c m) ++ pLeft c m k).Perm (irange 0 m.toNat)
  | 0, _ => .refl _
  | k + 1, h => by
    have ih := perm_inv (k := k) (by omega)
    have h1 := pIx_lt (c := c) (m := m) (k := k) (by omega)
    have h2 := pLeft_len (c := c) (m := m) (k := k) (by omega)
    rw [List.range_succ, List.map_append, List.append_assoc]
    refine List.Perm.trans (List.Perm.append_left _ ?_) ih
    have hlt : pIx c m k < (pLeft c m k).length := by omega
    exact erase_perm hlt
theorem permL_perm (hm : 0 ≤ m) : (permL c m).Perm (irange 0 m.toNat) := by
  have h := perm_inv (c := c) (m := m) (k := m.toNat) (by omega)
  have h2 := pLeft_len (c := c) (m := m) (k := m.toNat) (by omega)
  have e : pLeft c m m.toNat = [] := List.eq_nil_of_length_eq_zero (by omega)
  rw [e, List.append_nil] at h
  exact h
end
def F__law_perm : List PyData → PyData → Prop := fun ds d => ∃ c m, ds = [.int c, .int m] ∧ 0 ≤ m ∧ m ≤ 1000 ∧ d = tI (permL c m)
theorem L__law_perm : ∀ ds d, F__law_perm ds d → ds.length = 2 := fun _ _ ⟨_, _, e, _⟩ => by rw [e]; rfl
section
variable {K : PySem.W.Frag} {r : Rho} {ta tb : TE} {X : XK} {c m : Int}
theorem cv_perm (h1 : EvD K ta r (.int c)) (h2 : EvD K tb r (.int m)) (q0 : 0 ≤ m) (q1 : m ≤ 1000) : EvD K (tCall (spR K F__law_perm) [] X (tCons ta (tCons tb tNil))) r (tI (permL c m)) := ev_call (ea_cons h1 (ea_cons h2 ea_nil)) ⟨c, m, rfl, q0, q1, rfl⟩
end
end Od

namespace Od
open PySem PySem.Spec PyProof.Rows L2

/-! ### a lambda of one parameter -/
structure Lam1 (sc scope : Scope) (x : Str) : Prop where
  kind : scope.kind = .function
  co : scope.isCoroutine = false
  gen : scope.isGenerator = false
  own : ∀ y ∈ scope.names, y.2 ≠ .cell ∧ (y.2 = .local → y.1 = x)
  par : scope.names.lookup x = some .local
  free : ∀ y ∈ scope.names, y.2 = .free → sc.names.lookup y.1 = some .cell ∨ sc.names.lookup y.1 = some .free
def lam1B (sc scope : Scope) (x : Str) : Bool :=
  decide (scope.kind = .function) && !scope.isCoroutine && !scope.isGenerator && decide (scope.names.lookup x = some .local) && scope.names.all fun y => !decide (y.2 = .cell) && (!decide (y.2 = .local) || decide (y.1 = x)) && (!decide (y.2 = .free) || decide (sc.names.lookup y.1 = some .cell) || decide (sc.names.lookup y.1 = some .free))
theorem lam1_by {sc scope : Scope} {x : Str} (h : lam1B sc scope x = true) : Lam1 sc scope x := by
  unfold lam1B at h
  simp only [Bool.and_eq_true, Bool.or_eq_true, Bool.not_eq_true', decide_eq_true_eq, decide_eq_false_iff_not, List.all_eq_true] at h
  obtain ⟨⟨⟨⟨h1, h2⟩, h3⟩, h5⟩, h4⟩ := h
  refine ⟨h1, h2, h3, fun y hy => ⟨(h4 y hy).1.1, fun e => ?_⟩, h5, fun y hy e => ?_⟩
  · rcases (h4 y hy).1.2 with z | z
    · exact absurd e z
    · exact z
  · rcases (h4 y hy).2 with (z | z) | z
    · exact absurd e z
    · exact .inl z
    · exact .inr z
theorem Lam1.has {X : Cx} {scope : Scope} {x : Str} (L : Lam1 X.env.scope scope x) (ok : X.Ok) : ∀ y ∈ scope.names, y.2 = .free → ∃ c, X.env.cells.lookup y.1 = some c := fun y hy e => by
  rcases L.free y hy e with k | k
  · exact ok.has _ (.inl k)
  · exact ok.has _ (.inr k)
/-- the context of the lambda's body, entered at s from the frames outer -/
def lamCx1 (X : Cx) (A : Around) (outer : List Env) (s : Shared) (H : Hp) (E : XK) (scope : Scope) (f c' : Addr) (x : Str) : Cx where
  prog := X.prog
  w := X.w
  K := X.K
  mg := X.mg
  base := X.base
  A := A.deeper (LamX.lamEnv X scope s.heap.objs.size f c')
  N := X.N ++ [x]
  s_0 := s
  H_0 := H
  env := LamX.lamEnv X scope s.heap.objs.size f c'
  outer := outer
  stack := LamX.lamEnv X scope s.heap.objs.size f c' :: outer
  ex := []
  fn := fun _ => false
  calm := true
  pn := []
  xe := fun e s' => wpAny (model X.prog X.w) (A.deeper (LamX.lamEnv X scope s.heap.objs.size f c')) (leaving (LamX.lamEnv X scope s.heap.objs.size f c') e) (fun _ s'' => L2.CX X.prog X.w outer H s E e s'') (fun e' s'' => L2.CX X.prog X.w outer H s E e' s'') s'
section
variable {X : Cx} {pins : List (Addr × Obj)} {σ : L2.St} {H : Hp} {s : Shared}
theorem lam_start1 {A : Around} {outer : List Env} {E : XK} {scope : Scope} {f c' : Addr} {h₁ : Heap} {tk : Nat} {x : Str} {v : V} {u : Value} (I : Inv X pins σ H s) (L : Lam1 X.env.scope scope x) (hx : x ∉ X.N) (e0 : Env0 X.prog X.w X.K X.mg X.base A outer s H) (hd : A.handled = none)
    (rv : RelV v u) (hns : h₁.Ns s.heap.objs.size fun y => ([(x, u)] : List (Str × Value)).reverse.lookup y) (kp : ∀ b o, s.heap.get? b = some o → h₁.get? b = some o) :
    Inv (lamCx1 X A outer s H E scope f c' x) [] (σ ++ [some v]) H { s with heap := h₁, toks := tk } := by
  have hfree := L.has I.ok
  have cm : ∀ {y c}, (cloFrom X.env.cells scope.names []).lookup y = some c → X.env.cells.lookup y = some c := fun {y c} e => by
    rcases cloFrom_mem (PySem.mem_of_lookup e) with hm | ⟨h1, h2⟩
    · cases hm
    · obtain ⟨c1, hc⟩ := hfree _ h1 rfl
      have hc : X.env.cells.lookup y = some c1 := hc
      have e2 : c = c1 := by
        rw [h2, hc] <;> rfl
      rw [e2]
      exact hc
  have look : ∀ {y}, scope.names.lookup y = some .free → ∃ c, (cloFrom X.env.cells scope.names []).lookup y = some c := fun {y} hl => by
    have hy : (y, NameKind.free) ∈ scope.names := PySem.mem_of_lookup hl
    exact mem_lookup (cloFrom_has (cells := X.env.cells) (acc := []) hy)
  have cellK : ∀ {c : Addr} {v : Option Value}, s.heap.IsCell c v → h₁.IsCell c v := fun {c v} ⟨o, ho, hd⟩ => ⟨_, kp _ _ ho, hd⟩
  have noA : ∀ b : Addr, b ∉ (lamCx1 X A outer s H E scope f c' x).ex := fun b z => absurd (show b ∈ ([] : List Addr) from z) (by simp)
  refine ⟨⟨e0.mod, L.kind, rfl, rfl, Nat.le_refl _, fun y z c e1 e2 => I.ok.inj y z c (cm e1) (cm e2), fun y hy => ?_, fun y c z _ => ?_, fun _ => hd, Around.frames_deeper e0.frames, .inr ⟨rfl, rfl⟩, fun b z => absurd z (noA b), e0.bs, e0.bsz, fun b _ _ => noA b,
      fun b z => absurd z (noA b), e0.funs, e0.frf⟩,
    rfl, e0.bare, Un.kept kp, ⟨_, hns, fun i y v' e1 e2 e3 => ?_⟩, fun y c e => ?_, e0.hok.fresh (Nat.le_refl _), fun y c e => ?_, fun q hq => absurd (show q ∈ ([] : List (Addr × Obj)) ++ [] from hq) (by simp), e0.hok.kept kp, ?_⟩
  · have hy : scope.names.lookup y = some .cell ∨ scope.names.lookup y = some .free := hy
    rcases hy with hy | hy
    · exact absurd rfl (L.own _ (PySem.mem_of_lookup hy)).1
    · exact look hy
  · have z : false = true := z
    cases z
  · have e3 : Vis scope y := e3
    have e1 : (X.N ++ [x])[i]? = some y := e1
    have hlen := I.len
    by_cases hi : i < X.N.length
    · rw [List.getElem?_append_left hi] at e1
      rw [List.getElem?_append_left (by omega)] at e2
      have hyx : y ≠ x := fun z => hx (by rw [← z]; exact List.mem_of_getElem? e1)
      rcases e3 with k | k | k
      · exact absurd ((L.own _ (PySem.mem_of_lookup k)).2 rfl) hyx
      · exact absurd rfl (L.own _ (PySem.mem_of_lookup k)).1
      · obtain ⟨m, hn, hl⟩ := I.loc
        have hvis : Vis X.env.scope y := (L.free _ (PySem.mem_of_lookup k) rfl).elim (fun k => .inr (.inl k)) (fun k => .inr (.inr k))
        obtain ⟨w', r, q⟩ := hl i y v' e1 e2 hvis
        obtain ⟨c2, h2⟩ := look k
        refine ⟨w', r, .inr ⟨.inr k, c2, h2, ?_⟩⟩
        have c1 := cm h2
        rcases q with ⟨k', _⟩ | ⟨_, c3, e', z⟩
        · have k' : X.env.scope.names.lookup y = some .local := k'
          rcases L.free _ (PySem.mem_of_lookup k) rfl with k2 | k2 <;> rw [show X.env.scope.names.lookup y = _ from k2] at k' <;> cases k'
        · rw [c1] at e'
          cases e'
          exact cellK z
    · rw [List.getElem?_append_right (by omega)] at e1
      rw [List.getElem?_append_right (by omega)] at e2
      have hi0 : i - X.N.length = 0 := by
        have := (List.getElem?_eq_some_iff.mp e1).1
        rw [List.length_singleton] at this
        omega
      have hi1 : i - σ.length = 0 := by omega
      rw [hi0] at e1
      rw [hi1] at e2
      cases e1
      cases e2
      exact ⟨u, rv, .inl ⟨L.par, by simp⟩⟩
  · obtain ⟨w', z⟩ := I.cell y c (cm e)
    exact ⟨w', cellK z⟩
  · exact I.freeC y c (cm e)
  · show (σ ++ [some v]).length = (X.N ++ [x]).length
    rw [List.length_append, List.length_append, I.len]; rfl
abbrev lamObj (X : Cx) (params : Arguments) (body : Expr) (scope : Scope) (pm : Value) (c' : Addr) (ctv : Value) : Obj := PySem.W.kla_obj "<lambda>" (X.env.qual ++ "<lambda>") params body scope (cloFrom X.env.cells scope.names []) pm c' ctv
/-- the lambda at f is called -/
theorem lam_run {A : Around} {f c' : Addr} {pm ctv : Value} {params : Arguments} {body : Expr} {scope : Scope} {k : Nat} {x : Str} {v : V} {u : Value} {Q : VK} {tb : TE} (I : Inv X pins σ H s) (L : Lam1 X.env.scope scope x) (hx : x ∉ X.N) (hA : A.frames = some X.stack) (hr : Room (k + 1) A)
    (hf : s.heap.get? f = some (lamObj X params body scope pm c' ctv)) (hc : H c' = some (LamX.CodeO c' (X.env.qual ++ "<lambda>")))
    (hbind : ∀ u, bindArgs (PySem.W.kla_fn "<lambda>" (X.env.qual ++ "<lambda>") params body scope (cloFrom X.env.cells scope.names []) pm (.ref c') ctv) ⟨[u], []⟩ = pure [(x, u)])
    (hbody : ∀ (A : Around) (outer : List Env) (s : Shared) (H : Hp), Room k (A.deeper (LamX.lamEnv X scope s.heap.objs.size f c')) → PE (lamCx1 X A outer s H E0 scope f c' x) body tb) (rv : RelV v u) (ht : tb (σ ++ [some v]) H Q) :
    codeAny (model X.prog X.w) A (.call (.ref f) ⟨[u], []⟩) (CR (L2.CX X.prog X.w) X.stack X.prog X.w H s Q E0) s := by
  have e0' := I.env0
  have e0 : Env0 X.prog X.w X.K X.mg X.base A X.stack s H := ⟨hA, e0'.mod, e0'.bs, e0'.bsz, e0'.funs, e0'.frf, e0'.hok, e0'.bare⟩
  obtain ⟨⟨oc, vs, t, hoc, hdc, hvc⟩, _, _⟩ := I.hok c' _ hc
  refine PySem.W.kla_callFunE hr.depth hf rfl L.co L.gen rfl ⟨c', oc, vs, t, rfl, hoc, hdc, hvc⟩ ?_
  rw [hbind]
  refine wpAny_pure (wpAny_newFunctionEnv (fun y hy => (L.own y hy).1) (fun y hy => ?_) (fun h₁ hns hsb => ⟨I.nolimit.fresh _ hsb, ?_⟩) L.kind)
  · rw [List.mem_singleton.mp hy]; exact L.par
  show codeAny _ _ (.expr body (LamX.lamEnv X scope s.heap.objs.size f c')) _ _
  have kp : ∀ b o, s.heap.get? b = some o → h₁.get? b = some o := fun b o e => hsb.extBut b o (Nat.ne_of_lt (Heap.lt_size e)) (Heap.get?_push_of_some _ e)
  have J : Inv (lamCx1 X A X.stack s H E0 scope f c' x) [] (σ ++ [some v]) H { s with heap := h₁, toks := s.toks + ([(x, u)] : List (Str × Value)).length } := lam_start1 I L hx e0 hr.hd rv hns kp
  refine PySem.W.kla_codeExpr (wpAny_mono ((hbody _ _ s H (hr.deeper _)).run [] _ _ H Q J ht) (fun v s' hq => ?_) fun e s' hq => hq)
  obtain ⟨w', H', J', rv, q⟩ := hq
  exact ⟨w', H', J'.os, J'.bare, J'.base, J'.hok, rv, q⟩
end
/-! ### greater pairs -/
def gt2 (a b : Int × Int) : Bool := if a.1 = b.1 then (if a.2 = b.2 then false else decide (a.2 > b.2)) else decide (a.1 > b.1)
theorem rc_int {A : Around} {s : Shared} {i j : Int} {t u : Tok} : SeqAt.RcOp .Gt A s (.int i t) (.int j u) (decide (i > j)) := fun prog w E Q h =>
  CmpOf.ints_gt (P := fun (k : Nat) v => ∃ t, v = .int (if k = 0 then i else j) t) (fun k => if k = 0 then i else j) (fun _ _ h => h) 0 1 _ _ s Q E ⟨t, rfl⟩ ⟨u, rfl⟩ h
theorem gt_pair {A : Around} {s : Shared} {a b : Addr} {t1 t2 u1 u2 : Tok} {k l : Int × Int} (ha : s.heap.IsTuple a #[.int k.1 t1, .int k.2 t2]) (hb : s.heap.IsTuple b #[.int l.1 u1, .int l.2 u2]) (hu : A.units < cLine) : SeqAt.RcOp .Gt A s (.ref a) (.ref b) (gt2 k l) := by
  have h := SeqAt.RcOp.tuples_gt (e := fun j => if j = 0 then k.1 == l.1 else k.2 == l.2) (r := fun j => if j = 0 then decide (k.1 > l.1) else decide (k.2 > l.2)) ha hb hu (fun j h1 h2 => ?_) (fun j h1 h2 _ => ?_)
  · have e : SeqAt.firstLt (fun j => if j = 0 then k.1 == l.1 else k.2 == l.2) (fun j => if j = 0 then decide (k.1 > l.1) else decide (k.2 > l.2)) (decide ((#[Value.int k.1 t1, .int k.2 t2] : Array Value).size > (#[Value.int l.1 u1, .int l.2 u2] : Array Value).size)) (List.range (min (#[Value.int k.1 t1, .int k.2 t2] : Array Value).size (#[Value.int l.1 u1, .int l.2 u2] : Array Value).size)) = gt2 k l := by
      show SeqAt.firstLt _ _ false [0, 1] = _
      unfold gt2 SeqAt.firstLt SeqAt.firstLt SeqAt.firstLt
      by_cases h1 : k.1 = l.1 <;> by_cases h2 : k.2 = l.2 <;> simp [h1, h2]
    rw [e] at h
    exact h
  · match j, h1 with
    | 0, _ => exact SeqAt.EqAt.int_int _ _ _ _
    | 1, _ => exact SeqAt.EqAt.int_int _ _ _ _
  · match j, h1 with
    | 0, _ => exact rc_int
    | 1, _ => exact rc_int
end Od

namespace Od
open PySem PySem.Spec PyProof.Rows L2

/-! ### max(a tuple, key=lambda x: a pair of ints) -/
/-- what the rest of the items comes to: best, its key kb -/
def rMx (K : PySem.W.Frag) (c' : Addr) (q : Str) (tb : TE) (σ : L2.St) (Q : VK) : List V → V → Int × Int → Hp → Prop
  | [], best, _, H => Q best H
  | x :: r, best, kb, H => tb (σ ++ [some x]) H fun kv H' => ∃ t k, kv = .ref t ∧ SqT K H' t [.int k.1, .int k.2] ∧ H' c' = some (LamX.CodeO c' q) ∧ (if gt2 k kb = true then rMx K c' q tb σ Q r x k H' else rMx K c' q tb σ Q r best kb H')
theorem sqt_un {fs ex : List Addr} {K : PySem.W.Frag} {H H' : Hp} {h h' : Heap} {a : Addr} {xs : List V} (u : Un fs ex H H' h h') (q : SqT K H a xs) : SqT K H' a xs := by
  rcases q with (q | ⟨o, q⟩) | q
  · exact .inl (.inl (u.tups _ _ q))
  · exact .inl (.inr ⟨o, u.frzs _ _ _ q⟩)
  · exact .inr q
theorem tup2_at {X : Cx} {pins : List (Addr × Obj)} {σ : L2.St} {H : Hp} {s : Shared} {t : Addr} {k : Int × Int} (I : Inv X pins σ H s) (q : SqT X.K H t [.int k.1, .int k.2]) : ∃ t1 t2, s.heap.IsTuple t #[.int k.1 t1, .int k.2 t2] := by
  obtain ⟨its, rv, p, _⟩ := I.tuple q
  obtain ⟨u1, u2, rfl, ri, rj⟩ := vals2 rv
  obtain ⟨t1, rfl⟩ := ri
  obtain ⟨t2, rfl⟩ := rj
  exact ⟨t1, t2, p⟩
section
variable {X : Cx} {pins : List (Addr × Obj)} {σ : L2.St} {A : Around} {f c' l it S : Addr} {pm ctv : Value} {params : Arguments} {body : Expr} {scope : Scope} {k : Nat} {x : Str} {tb : TE} {xs : List V} {R : Result → Shared → Prop} {Q : VK}
/-- what is fixed through the loop -/
structure MxC (X : Cx) (pins : List (Addr × Obj)) (A : Around) (f c' l it S : Addr) (pm ctv : Value) (params : Arguments) (body : Expr) (scope : Scope) (k : Nat) (x : Str) (tb : TE) : Prop where
  L : Lam1 X.env.scope scope x
  hx : x ∉ X.N
  hh : A.handled = none
  hA : A.frames = some X.stack
  hr : Room (k + 1) A.in1
  hu : A.in1.units < cLine
  hbind : ∀ u, bindArgs (PySem.W.kla_fn "<lambda>" (X.env.qual ++ "<lambda>") params body scope (cloFrom X.env.cells scope.names []) pm (.ref c') ctv) ⟨[u], []⟩ = pure [(x, u)]
  hbody : ∀ (A : Around) (outer : List Env) (s : Shared) (H : Hp), Room k (A.deeper (LamX.lamEnv X scope s.heap.objs.size f c')) → PE (lamCx1 X A outer s H E0 scope f c' x) body tb
  ri : FbM.Rec X pins it
  rS : FbM.Rec X pins S
  rf : FbM.Rec X pins f
  Si : S ≠ it
  fi : f ≠ it
  fS : f ≠ S
  li : l ≠ it
  lS : l ≠ S
/-- the state of the loop -/
structure MxS (X : Cx) (pins : List (Addr × Obj)) (σ : L2.St) (f c' l it S : Addr) (pm ctv : Value) (params : Arguments) (body : Expr) (scope : Scope) (xs : List V) (i : Nat) (H : Hp) (s : Shared) : Prop where
  I : Inv X pins σ H s
  hl : SqT X.K H l xs
  ui : H it = none
  uS : H S = none
  uf : H f = none
  hc : H c' = some (LamX.CodeO c' (X.env.qual ++ "<lambda>"))
  hf : s.heap.get? f = some (lamObj X params body scope pm c' ctv)
  hit : s.heap.IsTupleIter it l i
/-- one item is drawn and its key told -/
theorem mx_draw (C : MxC X pins A f c' l it S pm ctv params body scope k x tb) {i : Nat} {H : Hp} {s : Shared} (M : MxS X pins σ f c' l it S pm ctv params body scope xs i H s) {v : V} (hv : xs[i]? = some v) {oS : Obj} (hS : s.heap.get? S = some oS)
    {Q1 : VK} (ht : tb (σ ++ [some v]) H Q1) {P : Option Value → Shared → Prop} {E : Value → Shared → Prop}
    (h : ∀ u h', RelV v u → (∀ {Qr : Value → Shared → Prop} {Er : Value → Shared → Prop}, (∀ ku kv H' s2, RelV kv ku → Q1 kv H' → H' c' = some (LamX.CodeO c' (X.env.qual ++ "<lambda>")) → MxS X pins σ f c' l it S pm ctv params body scope xs (i + 1) H' s2 → s2.heap.get? S = some oS → (∀ t ys, SqT X.K H t ys → SqT X.K H' t ys) → Qr ku s2) → (∀ kv H', Q1 kv H' → H' c' = some (LamX.CodeO c' (X.env.qual ++ "<lambda>"))) →
      wpAny (model X.prog X.w) A.in1 (call (.ref f) [u]) Qr Er { s with heap := h' }) → P (some u) { s with heap := h' }) :
    wpAny (model X.prog X.w) A.in1 (pyNext (.ref it)) P E s := by
  obtain ⟨its, rv, p, _⟩ := M.I.tuple M.hl
  have p' : s.heap.IsTuple l its.toArray := p
  obtain ⟨u, hu, ru⟩ := rv.get hv
  refine wpAny_pyNext_tuple_item M.hit p' (x := u) (by simpa using hu) fun h' hit' hs' => h u h' ru ?_
  intro Qr Er hk hcode
  have I1 : Inv X pins σ H { s with heap := h' } := C.ri.turn (t' := s.toks) M.I M.ui fun c o hc e => hs'.extBut c o hc e
  have hf1 : h'.get? f = some (lamObj X params body scope pm c' ctv) := hs'.extBut _ _ C.fi M.hf
  have hS1 : h'.get? S = some oS := hs'.extBut _ _ C.Si hS
  refine wpAny_call (codeAny_mono (lam_run I1 C.L C.hx C.hA C.hr hf1 M.hc C.hbind C.hbody ru ht) fun rr s2 hrr => ?_)
  cases rr with
  | error e =>
    exfalso
    obtain ⟨_, _, _, _, _, _, _, _, _, _, _, _, z⟩ := (show L2.CX X.prog X.w X.stack H _ E0 e s2 from hrr)
    exact z
  | ok fl =>
    cases fl with
    | next => exact False.elim hrr
    | brk => exact False.elim hrr
    | cont => exact False.elim hrr
    | ret ku =>
      obtain ⟨kv, H', os, bare, un, hok, rv', q⟩ := (show CE X.stack X.prog X.w H _ Q1 ku s2 from hrr)
      have I2 : Inv X pins σ H' s2 := I1.call' os un hok bare (fun b y => absurd y List.not_mem_nil)
      have keep : ∀ {b : Addr} {o : Obj}, FbM.Rec X pins b → H b = none → h'.get? b = some o → s2.heap.get? b = some o := fun rb ub eb => un.keep _ _ eb ub rb.fr List.not_mem_nil
      have free : ∀ {b : Addr} {o : Obj}, H b = none → h'.get? b = some o → H' b = none := fun ub eb => un.free _ _ eb ub List.not_mem_nil
      obtain ⟨oi, hoi, hci, hdi⟩ := id hit'
      have hi2 := keep C.ri M.ui hoi
      exact hk ku kv H' s2 rv' q (hcode kv H' q) ⟨I2, sqt_un un M.hl, free M.ui hoi, free M.uS hS1, free M.uf hf1, hcode kv H' q, keep C.rf M.uf hf1, ⟨oi, hi2, hci, hdi⟩⟩ (keep C.rS M.uS hS1) (fun t ys z => sqt_un un z)
theorem mx_loop (C : MxC X pins A f c' l it S pm ctv params body scope k x tb) (hR : ∀ v u H' s', Inv X pins σ H' s' → RelV v u → Q v H' → R (.ok (.ret u)) s') :
    ∀ (r : List V) (i : Nat) (H : Hp) (s : Shared) (vb : V) (ub : Value) (kb : Int × Int) (tk : Addr) (c : Nat), xs.drop i = r → i ≤ xs.length → MxS X pins σ f c' l it S pm ctv params body scope xs i H s →
      s.heap.get? S = some { cls := .type "list", dict := none, data := .seq #[ub, .ref tk] c, slots := #[] } → RelV vb ub → SqT X.K H tk [.int kb.1, .int kb.2] → rMx X.K c' (X.env.qual ++ "<lambda>") tb σ Q r vb kb H →
      ∀ kw, codeAny (model X.prog X.w) A (.builtin "max.loop" ⟨[.ref it, .ref f, .ref S], kw⟩) R s
  | [], i, H, s, vb, ub, kb, tk, c, hd, hi, M, hS, hb, hk, hq, kw => by
    have hin : i = xs.length := by
      have e := congrArg List.length hd
      rw [List.length_drop] at e
      have e2 : xs.length - i = 0 := e
      omega
    obtain ⟨its, rv, p, _⟩ := M.I.tuple M.hl
    have p' : s.heap.IsTuple l its.toArray := p
    have hlen := rv.length
    refine codeAny_builtin F.entry_max_loop ?_
    rw [Around.under_plainId F.plain_max_loop _]
    show wpAny _ A.in1 (seqItems? (.ref S) >>= _) _ _ s
    refine wpAny_bind (wpAny_seqItems hS rfl ?_)
    show wpAny _ A.in1 (tryCatch (pyNext (.ref it)) _ >>= _) _ _ s
    refine wpAny_bind (wpAny_tryCatch (wpAny_pyNext_tuple_end (show A.in1.handled = none from C.hh) M.hit p' (by simp; omega) fun h' he => ?_))
    have hS' := he S _ C.Si hS
    have I1 : Inv X pins σ H { s with heap := h' } := C.ri.turn (t' := s.toks) M.I M.ui fun c o hc e => he c o hc e
    show wpAny _ A.in1 (updateSeq S (fun _ => #[]) >>= _) _ _ _
    refine wpAny_bind ?_
    refine wpAny_updateSeq hS' rfl (wpAny_bind (wpAny_letGo (wpAny_pure ?_)))
    have I2 : Inv X pins σ H { s with heap := h'.update S (Obj.mapSeq fun _ => (#[] : Array Value)) } := C.rS.turn (s := { s with heap := h' }) (t' := s.toks) I1 M.uS fun c o hc e => (Heap.get?_update_other _ _ (Ne.symm hc)).trans e
    exact hR vb ub H _ I2 hb hq
  | v :: r, i, H, s, vb, ub, kb, tk, c, hd, hi, M, hS, hb, hk, hq, kw => by
    have hname : (toString "max" ++ toString ".loop" : String) = "max.loop" := by decide
    have hlt : i < xs.length := by
      rcases Nat.lt_or_ge i xs.length with z | z
      · exact z
      · rw [List.drop_eq_nil_of_le z] at hd
        exact (nomatch hd)
    have hvi : xs[i]? = some v := by
      have e : (xs.drop i)[0]? = (v :: r)[0]? := by rw [hd]
      rw [List.getElem?_drop] at e
      exact e
    have hdr : xs.drop (i + 1) = r := by
      have e := congrArg (List.drop 1) hd
      rw [List.drop_drop] at e
      first
        | exact e
        | (rw [Nat.add_comm] at e; exact e)
    refine codeAny_builtin F.entry_max_loop ?_
    rw [Around.under_plainId F.plain_max_loop _]
    show wpAny _ A.in1 (seqItems? (.ref S) >>= _) _ _ s
    refine wpAny_bind (wpAny_seqItems hS rfl ?_)
    show wpAny _ A.in1 (tryCatch (pyNext (.ref it)) _ >>= _) _ _ s
    refine wpAny_bind (wpAny_tryCatch (mx_draw C M hvi hS hq fun u h' ru hcall => ?_))
    show wpAny _ A.in1 (tryCatch (holding [u] (call (.ref f) [u])) _ >>= _) _ _ _
    refine wpAny_bind (wpAny_tryCatch (wpAny_holding (hcall (fun ku kv H' s2 rk q hc2 M2 hS2 keepT => ?_) fun kv H' q => q.choose_spec.choose_spec.2.2.1)))
    obtain ⟨t, kk, rfl, hkt, _, hq2⟩ := q
    obtain rfl : ku = Value.ref t := rk
    obtain ⟨a1, a2, tA⟩ := tup2_at M2.I hkt
    obtain ⟨b1, b2, tB⟩ := tup2_at M2.I (keepT _ _ hk)
    show wpAny _ A.in1 (tryCatch (holding [u, .ref t] (richCompare .Gt (.ref t) (.ref tk) >>= _)) _ >>= _) _ _ _
    refine wpAny_bind (wpAny_tryCatch (wpAny_holding (wpAny_bind (gt_pair tA tB C.hu X.prog X.w _ _ ?_))))
    refine wpAny_bind (wpAny_holding (wpAny_truthy_bool ?_))
    refine wpAny_bind (wpAny_letGo (wpAny_pure ?_))
    cases hg : gt2 kk kb with
    | true =>
      rw [hg, if_pos rfl] at hq2
      simp only [if_true]
      refine wpAny_bind ?_
      refine wpAny_updateSeq hS2 rfl (wpAny_bind (wpAny_letGo ?_))
      rw [hname]
      have I3 : Inv X pins σ H' { s2 with heap := s2.heap.update S (Obj.mapSeq fun _ => #[u, .ref t]) } := C.rS.turn (t' := s2.toks) M2.I M2.uS fun c o hc e => (Heap.get?_update_other _ _ (Ne.symm hc)).trans e
      have kp : ∀ b o, b ≠ S → s2.heap.get? b = some o → (s2.heap.update S (Obj.mapSeq fun _ => #[u, .ref t])).get? b = some o := fun b o hb e => (Heap.get?_update_other _ _ (Ne.symm hb)).trans e
      obtain ⟨oi, hoi, hci, hdi⟩ := id M2.hit
      exact wpAny_pure ⟨plainId_quiet F.plain_max_loop _, mx_loop C hR r (i + 1) H' _ v u kk t _ hdr hlt ⟨I3, M2.hl, M2.ui, M2.uS, M2.uf, M2.hc, kp _ _ C.fS M2.hf, ⟨oi, kp _ _ (Ne.symm C.Si) hoi, hci, hdi⟩⟩ (Heap.get?_update_self _ hS2 rfl) ru hkt hq2 _⟩
    | false =>
      rw [hg, if_neg (by decide)] at hq2
      simp only [Bool.false_eq_true, if_false]
      refine wpAny_bind (wpAny_letGo ?_)
      rw [hname]
      exact wpAny_pure ⟨plainId_quiet F.plain_max_loop _, mx_loop C hR r (i + 1) H' s2 vb ub kb tk c hdr hlt M2 hS2 hb (keepT _ _ hk) hq2 _⟩
/-- max(l, key=f) -/
theorem max_call {H : Hp} {s : Shared} {x0 : V} {E : Value → Shared → Prop} {Qf : Value → Shared → Prop} (hA : X.A.frames = some X.stack) (L : Lam1 X.env.scope scope x) (hx : x ∉ X.N) (hh : X.A.handled = none) (hr : Room (k + 1) X.A.in1)
    (hbind : ∀ u, bindArgs (PySem.W.kla_fn "<lambda>" (X.env.qual ++ "<lambda>") params body scope (cloFrom X.env.cells scope.names []) pm (.ref c') ctv) ⟨[u], []⟩ = pure [(x, u)])
    (hbody : ∀ (A : Around) (outer : List Env) (s : Shared) (H : Hp), Room k (A.deeper (LamX.lamEnv X scope s.heap.objs.size f c')) → PE (lamCx1 X A outer s H E0 scope f c' x) body tb)
    (I : Inv X pins σ H s) (hl : SqT X.K H l (x0 :: xs)) (uf : H f = none) (hfr : f ∉ frs X.stack) (rf : FbM.Rec X pins f) (hc : H c' = some (LamX.CodeO c' (X.env.qual ++ "<lambda>"))) (hf : s.heap.get? f = some (lamObj X params body scope pm c' ctv))
    (hq : tb (σ ++ [some x0]) H fun kv H3 => ∃ t k, kv = .ref t ∧ SqT X.K H3 t [.int k.1, .int k.2] ∧ H3 c' = some (LamX.CodeO c' (X.env.qual ++ "<lambda>")) ∧ rMx X.K c' (X.env.qual ++ "<lambda>") tb σ Q xs x0 k H3)
    (hR : ∀ v u H' s', Inv X pins σ H' s' → RelV v u → Q v H' → Qf u s') :
    wpAny (model X.prog X.w) X.A (call (.builtin "max") [.ref l] [(Str.ofString "key", .ref f)]) Qf E s := by
  have hname : (toString "max" ++ toString ".loop" : String) = "max.loop" := by decide
  obtain ⟨its, rv, p, _⟩ := I.tuple hl
  have p' : s.heap.IsTuple l its.toArray := p
  obtain ⟨ol, hol, _⟩ := id p'
  have hll : l < s.heap.objs.size := Heap.lt_size hol
  refine PyProof.Rows.kmk_tree F.kind_max F.plain_max F.entry_max (PyProof.Rows.kmk_max_key _ _) ?_
  show wpAny _ X.A.in1 (Builtin.Builtins.bindParams "max" ["key", "default"] 0 ⟨[], [(Str.ofString "key", .ref f)]⟩ >>= _) _ _ s
  refine wpAny_bind (wpAny_of_eq (show Builtin.Builtins.bindParams "max" ["key", "default"] 0 ⟨[], [(Str.ofString "key", .ref f)]⟩ = pure [some (.ref f), none] from rfl) ?_)
  refine wpAny_bind (wpAny_pure ?_)
  refine wpAny_bind (wpAny_pyIter_tuple p' ?_)
  refine wpAny_bind (wpAny_newList ?_ (Nat.zero_le _))
  rw [hname]
  have hz : (s.heap.push { cls := .type "tuple_iterator", data := .fields #[.ref l, .int 0 0] }).objs.size = s.heap.objs.size + 1 := Heap.size_push ..
  have gI : ((s.heap.push { cls := .type "tuple_iterator", data := .fields #[.ref l, .int 0 0] }).push (seqObj "list" #[] 0)).get? s.heap.objs.size = some { cls := .type "tuple_iterator", data := .fields #[.ref l, .int 0 0] } :=
    Heap.get?_push_of_some _ (Heap.get?_push_size _ rfl)
  have gS : ((s.heap.push { cls := .type "tuple_iterator", data := .fields #[.ref l, .int 0 0] }).push (seqObj "list" #[] 0)).get? (s.heap.push { cls := .type "tuple_iterator", data := .fields #[.ref l, .int 0 0] }).objs.size = some (seqObj "list" #[] 0) := Heap.get?_push_size _ rfl
  generalize hS0 : (s.heap.push { cls := .type "tuple_iterator", data := .fields #[.ref l, .int 0 0] }).objs.size = S0 at *
  have hSz : S0 = s.heap.objs.size + 1 := hz
  have kp : ∀ b o, s.heap.get? b = some o → ((s.heap.push { cls := .type "tuple_iterator", data := .fields #[.ref l, .int 0 0] }).push (seqObj "list" #[] 0)).get? b = some o := fun b o e => Heap.get?_push_of_some _ (Heap.get?_push_of_some _ e)
  have hfl : f < s.heap.objs.size := Heap.lt_size hf
  generalize hh2 : (s.heap.push { cls := .type "tuple_iterator", data := .fields #[.ref l, .int 0 0] }).push (seqObj "list" #[] 0) = h2 at *
  have I2 : Inv X pins σ H { s with heap := h2 } := I.kept (t' := s.toks) kp
  have C : MxC X pins X.A f c' l s.heap.objs.size S0 pm ctv params body scope k x tb := ⟨L, hx, hh, hA, hr, hr.units0, hbind, hbody, FbM.rec_new I (Nat.le_refl _), FbM.rec_new I (by rw [hSz]; exact Nat.le_succ _), rf, by rw [hSz]; exact Nat.succ_ne_self _, Nat.ne_of_lt hfl, by rw [hSz]; exact Nat.ne_of_lt (Nat.lt_succ_of_lt hfl), Nat.ne_of_lt hll, by rw [hSz]; exact Nat.ne_of_lt (Nat.lt_succ_of_lt hll)⟩
  have M : MxS X pins σ f c' l s.heap.objs.size S0 pm ctv params body scope (x0 :: xs) 0 H { s with heap := h2 } := ⟨I2, hl, I.hok.fresh (Nat.le_refl _), I.hok.fresh (by rw [hSz]; exact Nat.le_succ _), uf, hc, kp _ _ hf, ⟨_, gI, rfl, rfl⟩⟩
  refine wpAny_pure ⟨plainId_quiet F.plain_max_loop _, ?_⟩
  refine codeAny_builtin F.entry_max_loop ?_
  rw [Around.under_plainId F.plain_max_loop _]
  show wpAny _ X.A.in1 (seqItems? (.ref S0) >>= _) _ _ _
  refine wpAny_bind (wpAny_seqItems gS rfl ?_)
  show wpAny _ X.A.in1 (tryCatch (pyNext (.ref s.heap.objs.size)) _ >>= _) _ _ _
  refine wpAny_bind (wpAny_tryCatch (mx_draw C M (i := 0) (v := x0) rfl gS hq fun u h' ru hcall => ?_))
  show wpAny _ X.A.in1 (tryCatch (holding [u] (call (.ref f) [u])) _ >>= _) _ _ _
  refine wpAny_bind (wpAny_tryCatch (wpAny_holding (hcall (fun ku kv H' s2 rk q hc2 M2 hS2 keepT => ?_) fun kv H' q => q.choose_spec.choose_spec.2.2.1)))
  obtain ⟨t, kk, rfl, hkt, _, hq2⟩ := q
  obtain rfl : ku = Value.ref t := rk
  show wpAny _ X.A.in1 (updateSeq S0 (fun _ => #[u, .ref t]) >>= _) _ _ _
  refine wpAny_bind ?_
  refine wpAny_updateSeq hS2 rfl ?_
  rw [hname]
  have I3 : Inv X pins σ H' { s2 with heap := s2.heap.update S0 (Obj.mapSeq fun _ => #[u, .ref t]) } := C.rS.turn (t' := s2.toks) M2.I M2.uS fun c o hc e => (Heap.get?_update_other _ _ (Ne.symm hc)).trans e
  have kp2 : ∀ b o, b ≠ S0 → s2.heap.get? b = some o → (s2.heap.update S0 (Obj.mapSeq fun _ => #[u, .ref t])).get? b = some o := fun b o hb e => (Heap.get?_update_other _ _ (Ne.symm hb)).trans e
  obtain ⟨oi, hoi, hci, hdi⟩ := id M2.hit
  exact wpAny_pure ⟨plainId_quiet F.plain_max_loop _, mx_loop C (fun v u H' s' a b c => hR v u H' s' a b c) xs 1 H' _ x0 u kk t _ rfl (by simp) ⟨I3, M2.hl, M2.ui, M2.uS, M2.uf, M2.hc, kp2 _ _ C.fS M2.hf, ⟨oi, kp2 _ _ (Ne.symm C.Si) hoi, hci, hdi⟩⟩ (Heap.get?_update_self _ hS2 rfl) ru hkt hq2 _⟩
end
/-! ### the lambda is made -/
section
variable {X : Cx} {pins : List (Addr × Obj)} {σ : L2.St} {H : Hp} {s : Shared}
theorem lam_make3 {c : Addr} {params : Arguments} {body : Expr} {scope : Scope} {pos : Pos} {E : Value → Shared → Prop} {Q : Value → Shared → Prop} (I : Inv X pins σ H s) (TB : LamX.TabB X.base X.mg c PL) (hcode : X.env.code = .ref c)
    (hq : X.env.qual ++ "<lambda>" = QL) (hT : LamX.TabS H PL QL) (hdef : defaultsOf params X.env = ([], [])) (hfree : ∀ y ∈ scope.names, y.2 = .free → ∃ c, X.env.cells.lookup y.1 = some c)
    (h : ∀ (f c' : Addr) (pm ctv : Value) (H1 : Hp) (s' : Shared), Inv X pins σ H1 s' → (∀ B, Same B H → B PL = none → Stp B H B H1) → s'.heap.get? f = some (lamObj X params body scope pm c' ctv) → H1 f = none → f ∉ frs X.stack → FbM.Rec X pins f → H1 c' = some (LamX.CodeO c' (X.env.qual ++ "<lambda>")) → Q (.ref f) s') :
    wpAny (model X.prog X.w) X.A (eval (.Lambda params body scope pos) X.env) Q E s := by
  rw [← hq] at hT
  obtain ⟨ps, hP, ht, ha⟩ := id hT
  refine PySem.W.kla_eval hdef ?_
  have bP : s.heap.BuiltinsAt X.mg PL := TB.bm.keeps I.bk
  have hP' : s.heap.get? PL = some { cls := .none, data := .fields ps } := I.hok PL _ hP
  have nofr : ∀ f, s.heap.objs.size ≤ f → f ∉ frs X.stack := fun f hf z => by
    rcases List.mem_cons.mp (I.stkSub _ z) with e | e
    · have h1 := I.lt
      rw [← e] at h1
      exact Nat.lt_irrefl _ (Nat.lt_of_lt_of_le h1 hf)
    · exact I.nofs hf e
  cases hc : codeAmong pos ps.toList with
  | none =>
    refine PySem.W.kla_makeFunction (mg := X.mg) (c := c) (P := PL) (ps := ps) (closure_ok hfree) I.ok.glob (I.mod.glob.keeps I.bk) hcode (TB.code.keeps I.bk) hP' ht hc TB.gP bP fun c' ctv h' tk hx hge hlt hrec htb => ?_
    obtain ⟨c2, oc, vs, t, e2, hoc, hd, hv⟩ := hrec
    cases e2
    have hsz : s.heap.objs.size ≤ h'.objs.size := Nat.le_trans hge (Nat.le_of_lt hlt)
    have nC : H c' = none := I.hok.fresh hge
    have I1 := LamX.inv_table (t' := tk) (more := #[rawInt pos.line, rawInt pos.col, .ref c']) (h' := h'.push (PySem.W.kla_obj "<lambda>" (X.env.qual ++ "<lambda>") params body scope (cloFrom X.env.cells scope.names []) ((X.mg "__name__").getD .none) c' ctv)) I hP
      (fun b o hb e => Heap.get?_push_of_some _ (hx b o hb e)) (Heap.get?_push_of_some _ htb) hge ⟨oc, vs, t, Heap.get?_push_of_some _ hoc, hd, hv⟩
    have hE : LamX.ExtN H (upd (upd H PL (.tbl (ps ++ #[rawInt pos.line, rawInt pos.col, .ref c']))) c' (LamX.CodeO c' (X.env.qual ++ "<lambda>"))) := fun b o e n => by
      rw [upd_ne (ne_of_none e nC), upd_ne (fun z => n ps (Option.some.inj (e.symm.trans (by rw [z]; exact hP))))]
      exact e
    have eL : (ps ++ #[rawInt pos.line, rawInt pos.col, .ref c']).toList = ps.toList ++ [rawInt pos.line, rawInt pos.col, .ref c'] := by simp
    have G : Gro H (upd (upd H PL (.tbl (ps ++ #[rawInt pos.line, rawInt pos.col, .ref c']))) c' (LamX.CodeO c' (X.env.qual ++ "<lambda>"))) := by
      refine ⟨hE, fun b m => ?_, fun _ => ?_⟩
      · by_cases h1 : b = c'
        · rw [h1, upd_same]; exact fun z => nomatch z
        · rw [upd_ne h1]
          by_cases h2 : b = PL
          · rw [h2, upd_same]; exact fun z => nomatch z
          · rw [upd_ne h2]; exact m
      · rw [← hq]
        refine ⟨_, by rw [upd_ne (ne_of_none hP nC), upd_same], by rw [eL]; exact PySem.TriplesOk_snoc _ _ _ _ ht, fun p' cv hcv => ?_⟩
        rw [eL] at hcv
        rcases LamX.among_app _ ht hcv with z | z
        · obtain ⟨c0, e1, e2⟩ := ha p' cv z
          exact ⟨c0, e1, hE _ _ e2 LamX.codeO_ne⟩
        · exact ⟨c', z, upd_same⟩
    refine h h'.objs.size c' ((X.mg "__name__").getD .none) ctv _ _ I1 (fun B sb bn => ⟨Same.refl _, G, fun b o e => ?_, fun a n _ => n⟩) (Heap.get?_push_size _ rfl) ?_ (nofr _ hsz) (FbM.rec_new I hsz) upd_same
    · rw [upd_ne (ne_of_none (sb _ _ e) nC), upd_ne (fun z => by rw [z, bn] at e; cases e)]
      exact sb _ _ e
    · have n1 : h'.objs.size ≠ c' := Nat.ne_of_gt hlt
      have n2 : h'.objs.size ≠ PL := Nat.ne_of_gt (Nat.lt_of_lt_of_le (Heap.lt_size hP') hsz)
      rw [upd_ne n1, upd_ne n2]
      exact I.hok.fresh hsz
  | some cv =>
    obtain ⟨c', e, hco⟩ := ha pos cv hc
    subst e
    refine PySem.W.kla_makeFunctionHit (mg := X.mg) (c := c) (P := PL) (ps := ps) (closure_ok hfree) I.ok.glob (I.mod.glob.keeps I.bk) hcode (TB.code.keeps I.bk) hP' ht hc bP fun ctv h' tk hx hsz => ?_
    have I1 : Inv X pins σ H { s with heap := h'.push (PySem.W.kla_obj "<lambda>" (X.env.qual ++ "<lambda>") params body scope (cloFrom X.env.cells scope.names []) ((X.mg "__name__").getD .none) c' ctv), toks := tk } := I.kept fun b o e => Heap.get?_push_of_some _ (hx b o e)
    exact h h'.objs.size c' ((X.mg "__name__").getD .none) ctv H _ I1 (fun B sb _ => .refl sb) (Heap.get?_push_size _ rfl) (I.hok.fresh hsz) (nofr _ hsz) (FbM.rec_new I hsz) hco
end
/-- max(e, key=lambda x: body) -/
def tMaxL (K : PySem.W.Frag) (q : Str) (ta : TA) (tb : TE) : TE := fun σ H Q => ta σ H fun vs H1 => ∃ l x0 xs, vs = [V.ref l] ∧ SqT K H1 l (x0 :: xs) ∧ LamX.TabS H1 PL QL ∧ ∀ c' H2, (∀ B, Same B H1 → B PL = none → Stp B H1 B H2) → H2 c' = some (LamX.CodeO c' q) →
  tb (σ ++ [some x0]) H2 fun kv H3 => ∃ t k, kv = .ref t ∧ SqT K H3 t [.int k.1, .int k.2] ∧ H3 c' = some (LamX.CodeO c' q) ∧ rMx K c' q tb σ Q xs x0 k H3
theorem pe_maxL {X : Cx} {K : PySem.W.Frag} {k : Nat} {c : Addr} {q : Str} {e : Expr} {params : Arguments} {body : Expr} {scope : Scope} {lpos kpos p pos : Pos} {x : Str} {ta : TA} {tb : TE} (hK : X.K = K) (hg : Gl X "max") (hm : X.mg "max" = none) (ha : PA X [e] ta)
    (TB : LamX.TabB X.base X.mg c PL) (hcode : X.env.code = .ref c) (hq : X.env.qual ++ "<lambda>" = q) (hqL : q = QL) (L : Lam1 X.env.scope scope x) (hx : x ∉ X.N) (hr : Room (k + 2) X.A)
    (hbody : ∀ (A : Around) (outer : List Env) (s : Shared) (H : Hp) (f c' : Addr), Room k (A.deeper (LamX.lamEnv X scope s.heap.objs.size f c')) → PE (lamCx1 X A outer s H E0 scope f c' x) body tb)
    (hdef : defaultsOf params X.env = ([], []) := by rfl)
    (hbind : ∀ (q : Str) (cl : List (Str × Addr)) (pm cv ctv u : Value), bindArgs (PySem.W.kla_fn "<lambda>" q params body scope cl pm cv ctv) ⟨[u], []⟩ = pure [(x, u)] := by intros; rfl)
    (he : backTo pos (starEach [e] X.env) = (false, eval e X.env) :: backTo pos (starEach [] X.env) := by rfl) (hpl : (backTo pos (starEach [e] X.env)).any (·.1) = false := by rfl)
    (hall : (backToKw pos (keywordEach [⟨some "key", .Lambda params body scope lpos, kpos⟩] X.env)).all (·.1.isSome) = true := by rfl) (hnone : (backToKw pos (keywordEach [⟨some "key", .Lambda params body scope lpos, kpos⟩] X.env)).any (·.1.isNone) = false := by rfl)
    (hks : (backToKw pos (keywordEach [⟨some "key", .Lambda params body scope lpos, kpos⟩] X.env)).filterMap (·.1) = [Str.ofString "key"] := by rfl) :
    PE X (.Call (.Name "max" p) [e] [⟨some "key", .Lambda params body scope lpos, kpos⟩] pos) (tMaxL K q ta tb) := by
  subst hK
  refine ⟨fun pins s σ H Q I h => ?_⟩
  refine wpAny_Call_Name_kw (ld_blt I hg hm boot_max ?_ (by decide) (by decide))
  refine PyProof.Rows.callWith_kw (thn (ha.run pos pins s σ H _ I h) fun us s1 ⟨vs, H1, I1, r1, l, x0, xs, ev, hl, hT, hcont⟩ => ?_) he hpl hall hnone
  subst ev
  obtain ⟨u1, rfl, ru⟩ := vals1 r1
  obtain rfl : u1 = Value.ref l := ru
  rw [hks]
  show wpAny _ _ (evalAll ((do let v ← eval (.Lambda params body scope lpos) X.env; standAt pos; pure v) :: (backToKw pos (keywordEach [] X.env)).map (·.2))) _ _ s1
  refine wpAny_evalAll_cons (wpAny_bind (lam_make3 I1 TB hcode (hq.trans hqL) hT hdef (L.has I1.ok) fun f c' pm ctv H2 s2 I2 st hf hfn hfr rf hc => ?_))
  refine wpAny_bind (wpAny_standAt (wpAny_pure ?_))
  refine wpAny_evalAll_nil ?_
  subst hq
  exact max_call (k := k) I2.ok.frames L hx hr.hd (hr.in1) (fun u => hbind _ _ _ _ _ u) (fun A outer s H hr' => hbody A outer s H f c' hr') I2 (sqt_monoG (st (fun _ => none) (fun _ _ z => nomatch z) rfl).h hl) hfn hfr rf hc hf (hcont c' H2 st hc) (fun v u H' s' a b c => ⟨v, H', a, b, c⟩)
end Od

namespace Od
open PySem PySem.Spec PyProof.Rows L2

def maxR (kf : Int → Int × Int) : List Int → Int → Int
  | [], b => b
  | x :: r, b => if gt2 (kf x) (kf b) = true then maxR kf r x else maxR kf r b
def maxK (kf : Int → Int × Int) : List Int → Int
  | [] => 0
  | x :: r => maxR kf r x
theorem maxR_mem {kf : Int → Int × Int} : ∀ {r : List Int} {b : Int}, maxR kf r b ∈ b :: r
  | [], b => List.mem_cons_self
  | x :: r, b => by
    unfold maxR
    split
    · exact List.mem_cons_of_mem _ maxR_mem
    · rcases List.mem_cons.mp (maxR_mem (kf := kf) (r := r) (b := b)) with e | e
      · rw [e]; exact List.mem_cons_self
      · exact List.mem_cons_of_mem _ (List.mem_cons_of_mem _ e)
theorem maxK_mem {kf : Int → Int × Int} {l : List Int} (h : l ≠ []) : maxK kf l ∈ l := by
  cases l with
  | nil => exact absurd rfl h
  | cons x r => exact maxR_mem
section
variable {K : PySem.W.Frag} {B H : Hp} {s : L2.St} {r : Rho}
theorem EnvR.push (e : EnvR K B H s r) {v : V} {d : PyData} (h : Dp K B v d) : EnvR K B H (s ++ [some v]) (r ++ [.im d]) where
  i := e.i
  tb := e.tb
  len := by rw [List.length_append, List.length_append, e.len]; rfl
  im := fun {n d'} h' => by
    have hl := e.len
    by_cases q : n < r.length
    · rw [List.getElem?_append_left q] at h'
      obtain ⟨w, h1, h2⟩ := e.im h'
      exact ⟨w, by rw [List.getElem?_append_left (by omega)]; exact h1, h2⟩
    · rw [List.getElem?_append_right (by omega)] at h'
      have h0 : n - r.length = 0 := by
        have := (List.getElem?_eq_some_iff.mp h').1
        rw [List.length_singleton] at this
        omega
      rw [h0] at h'
      cases h'
      exact ⟨v, by rw [List.getElem?_append_right (by omega), show n - s.length = 0 by omega]; rfl, h⟩
  ow := fun {n ds} h' => by
    have hl := e.len
    by_cases q : n < r.length
    · rw [List.getElem?_append_left q] at h'
      obtain ⟨l, xs, h1, h2⟩ := e.ow h'
      exact ⟨l, xs, by rw [List.getElem?_append_left (by omega)]; exact h1, h2⟩
    · rw [List.getElem?_append_right (by omega)] at h'
      have h0 : n - r.length = 0 := by
        have := (List.getElem?_eq_some_iff.mp h').1
        rw [List.length_singleton] at this
        omega
      rw [h0] at h'
      cases h'
  ne := fun {n m ds es l} h1 h2 h3 h4 => by
    have hl := e.len
    have lt : ∀ {n : Nat} {ds : List PyData}, (r ++ [Sl.im d])[n]? = some (.ow ds) → n < r.length := fun {n ds} h => by
      rcases Nat.lt_or_ge n r.length with z | z
      · exact z
      · rw [List.getElem?_append_right z] at h
        have h0 : n - r.length = 0 := by
          have := (List.getElem?_eq_some_iff.mp h).1
          rw [List.length_singleton] at this
          omega
        rw [h0] at h
        cases h
    have a := lt h1
    have b := lt h2
    rw [List.getElem?_append_left a] at h1
    rw [List.getElem?_append_left b] at h2
    rw [List.getElem?_append_left (by omega)] at h3 h4
    exact e.ne h1 h2 h3 h4
theorem dp_pair {v : V} {k : Int × Int} (h : Dp K B v (.tuple [.int k.1, .int k.2])) : ∃ t, v = .ref t ∧ SqT K B t [.int k.1, .int k.2] := by
  cases h with
  | tup q1 q2 =>
    have e := dpa_ints_inv (ns := [k.1, k.2]) q2
    subst e
    exact ⟨_, rfl, q1⟩
theorem rmx_of {c' : Addr} {q : Str} {tb : TE} {kf : Int → Int × Int} {Q : VK} {ns : List Int} (hb : ∀ n ∈ ns, EvD K tb (r ++ [.im (.int n)]) (.tuple [.int (kf n).1, .int (kf n).2])) :
    ∀ (l : List Int) (b : Int) (B H : Hp), (∀ n ∈ l, n ∈ ns) → EnvR K B H s r → H c' = some (LamX.CodeO c' q) → (∀ B' H', Stp B H B' H' → Q (.int (maxR kf l b)) H') → rMx K c' q tb s Q (l.map .int) (.int b) (kf b) H
  | [], b, B, H, _, E, hc, k => k B H (.refl E.i)
  | x :: l, b, B, H, hm, E, hc, k => by
    refine hb x (hm x List.mem_cons_self) B H _ (E.push (.int x)) _ fun kv B3 H3 x3 hk => ?_
    obtain ⟨t, rfl, hq⟩ := dp_pair hk
    have hc3 := x3.h.e c' _ hc fun ps => LamX.codeO_ne ps
    refine ⟨t, kf x, rfl, sqt_mono x3.i hq, hc3, ?_⟩
    by_cases g : gt2 (kf x) (kf b) = true
    · rw [if_pos g]
      refine rmx_of hb l x B3 H3 (fun n hn => hm n (List.mem_cons_of_mem _ hn)) (E.mono x3) hc3 fun B' H' x' => ?_
      have := k B' H' (x3.trans x')
      unfold maxR at this
      rw [if_pos g] at this
      exact this
    · rw [if_neg g]
      refine rmx_of hb l b B3 H3 (fun n hn => hm n (List.mem_cons_of_mem _ hn)) (E.mono x3) hc3 fun B' H' x' => ?_
      have := k B' H' (x3.trans x')
      unfold maxR at this
      rw [if_neg g] at this
      exact this
theorem ev_maxL {ta : TA} {tb : TE} {q : Str} {ns : List Int} (kf : Int → Int × Int) (ha : EvA K ta r [tI ns]) (hne : ns ≠ []) (hb : ∀ n ∈ ns, EvD K tb (r ++ [.im (.int n)]) (.tuple [.int (kf n).1, .int (kf n).2])) :
    EvD K (tMaxL K q ta tb) r (.int (maxK kf ns)) := fun B H s E Q k => by
  refine ha B H s E _ fun vs B1 H1 x1 hv => ?_
  cases hv with
  | cons a b =>
    cases b
    cases a with
    | tup q1 q2 =>
      have e := dpa_ints_inv q2
      subst e
      cases ns with
      | nil => exact absurd rfl hne
      | cons n ns =>
        refine ⟨_, _, _, rfl, sqt_mono x1.i q1, (x1.tb E.tb).t, fun c' H2 st hc => ?_⟩
        have x2 := st B1 x1.i (x1.tb E.tb).b
        have E2 := (E.mono x1).mono x2
        refine hb n List.mem_cons_self B1 H2 _ (E2.push (.int n)) _ fun kv B3 H3 x3 hk => ?_
        obtain ⟨t, rfl, hq⟩ := dp_pair hk
        have hc3 := x3.h.e c' _ hc fun ps => LamX.codeO_ne ps
        exact ⟨t, kf n, rfl, sqt_mono x3.i hq, hc3, rmx_of hb ns n B3 H3 (fun m hm => List.mem_cons_of_mem _ hm) (E2.mono x3) hc3 fun B' H' x' => k _ B' H' (((x1.trans x2).trans x3).trans x') (.int _)⟩
end
end Od

namespace Od
open PySem PySem.Spec PyProof.Rows L2
section
variable {P : Program} {w : World} {K : PySem.W.Frag} {mg : Str → Option Value} {base : Heap}
/-- as Fun.ok, for a def whose code object is known -/
theorem Fun_okC {x qual : Str} {st : Stmt} {f : Addr} {fd : FuncData} {N ps : List Str} {k : Nat} {sp : Sp} {cdA : Value} (F : Fun K x qual st f fd) (hcA : fd.code = cdA) (S : FnScope N ps (defScope st)) (len : ∀ vs H Q E, sp vs H Q E → vs.length = ps.length)
    (hbody : ∀ (A : Around) (outer : List Env) (s : Shared) (H : Hp) (vs : List V) (Q : VK) (E : XK), Room k (A.deeper (envOfC qual (defScope st) s.heap.objs.size f cdA)) → sp vs H Q E →
      ∃ t, PSs (cxOf CX0 P w K mg base N qual (defScope st) f cdA A outer s H E).nox (defBody st) t ∧ t { nx := fun _ H' => Q .non H', rt := Q } (L2.start N vs) H) : FnOk P w K mg base CX0 (k + 1) f fd ps sp := by
  obtain ⟨oc, od, kV, doc, pm, an, cdv, ct, osl, rfl, lk, hcd⟩ := F.ex
  have e : cdv = cdA := hcA
  subst e
  refine fn_of lk hcd S len fun A outer s H vs Q E hr hsp => ?_
  obtain ⟨t, h, q⟩ := hbody A outer s H vs Q E hr hsp
  exact ⟨t, h.nox, q⟩
end
section
variable {K : PySem.W.Frag} {r : Rho} {ta tb tc te : TE} {i j k : Int} {ds : List PyData}
theorem pe_notTK {X : Cx} {K : PySem.W.Frag} {a : Expr} {ta : TE} {pos : Pos} (h : X.K = K) (ha : PE X a ta) : PE X (.UnaryOp .Not a pos) (tNotT K ta) := h ▸ pe_notT ha
theorem ev_notT (h : EvQ K te r ds) : EvD K (tNotT K te) r (.bool ds.isEmpty) := fun B H s E Q k => h B H s E _ fun v B1 H1 x1 ⟨a, xs, h1, h2, h3⟩ => by
  subst h1
  have e : xs.isEmpty = ds.isEmpty := by cases h3 <;> rfl
  refine ⟨!ds.isEmpty, ?_, k _ B1 H1 x1 (by rw [Bool.not_not]; exact .bl _)⟩
  rcases h2 with h2 | h2
  · exact .inl ⟨xs, h2, by rw [e]⟩
  · exact .inr (.inl ⟨xs, h2, by rw [e]⟩)
theorem ev_chainLe (ha : EvD K ta r (.int i)) (hb : EvD K tb r (.int j)) (hc : EvD K tc r (.int k)) : EvD K (tChain (rI0 fun i j => .bl (decide (i ≤ j))) (rI0 fun i j => .bl (decide (i ≤ j))) ta tb tc) r (.bool (decide (i ≤ j) && decide (j ≤ k))) := fun B H s E Q kk =>
  ha B H s E _ fun x B1 H1 x1 h1 => hb B1 H1 s (E.mono x1) _ fun y B2 H2 x2 h2 => by
    cases h1; cases h2
    refine ⟨i, j, rfl, rfl, decide (i ≤ j), rfl, ?_⟩
    by_cases h : i ≤ j
    · rw [decide_eq_true h, if_pos rfl]
      refine hc B2 H2 s ((E.mono x1).mono x2) _ fun z B3 H3 x3 h3 => ?_
      cases h3
      refine ⟨j, k, rfl, rfl, kk _ B3 H3 ((x1.trans x2).trans x3) ?_⟩
      rw [decide_eq_true h, Bool.true_and]; exact .bl _
    · rw [decide_eq_false h, if_neg Bool.false_ne_true]
      refine kk _ B2 H2 (x1.trans x2) ?_
      rw [decide_eq_false h, Bool.false_and]; exact .bl _
end
/-- the law's own start: the script alone is known -/
theorem sp_start {K : PySem.W.Frag} {F : List PyData → PyData → Prop} {H : Hp} {a : Addr} {ns : List Int} (hT : H PL = some (.tbl #[])) (hS : SqL K H a (ns.map V.int)) (hF : F [lI ns] (.bool true)) : spR K F [.ref a] H (fun v _ => v = .bl true) fun _ _ _ => False := by
  refine ⟨fun b => if b = PL then none else H b, [lI ns], .bool true, fun b o e => ?_, ⟨if_pos rfl, LamX.TabS.nil hT⟩, .cons (.lst ?_ (dpa_ints ns)) .nil, hF, fun v B' H' _ h => by cases h; rfl⟩
  · dsimp only at e
    split at e
    · cases e
    · exact e
  · rcases hS with (h | ⟨o, h⟩) | h
    · exact .inl (.inl (by dsimp only; rw [if_neg (fun z => by rw [z, hT] at h; cases h)]; exact h))
    · exact .inl (.inr ⟨o, by dsimp only; rw [if_neg (fun z => by rw [z, hT] at h; cases h)]; exact h⟩)
    · exact .inr h
end Od

namespace Od
open PySem PySem.Spec PyProof.Rows L2

/-! ### tuple(reversed(range(..))) -/
section
variable {prog : Program} {w : World} {A : Around} {E : Value → Shared → Prop} {s : Shared} {I : Addr}
theorem ri_hint {x left step : Int} {Q : Value → Shared → Prop} (hit : IsRangeIter s.heap I x left step) (hQ : ∀ u tk, s.toks ≤ tk → Q (.int left u) { s with toks := tk }) :
    wpAny (model prog w) A (call (.builtin "range_iterator.__length_hint__") [.ref I]) Q E s := by
  have hT : s.TypeIs (.ref I) "range_iterator" := ⟨_, hit, rfl⟩
  refine wpAny_call_entry F.slot_range_iterator_length_hint hT F.entry_range_iterator_length_hint ?_ (F.args_range_iterator_length_hint_1 _)
  unfold Builtin.«range_iterator.__length_hint__»
  refine wpAny_bind (wpAny_of_eq (a := Value.ref I) rfl ?_)
  try dsimp only
  refine wpAny_bind (wpAny_field hit rfl (x := rawInt left) rfl ?_)
  show wpAny _ _ (retInt left) _ _ s
  unfold retInt
  refine wpAny_bind (wpAny_mkInt ?_)
  exact wpAny_pure ⟨_, rfl, hQ _ _ (Nat.le_succ _)⟩
theorem collect_ri {a c : Int} {n : Nat} {Q : List Value → Shared → Prop} (hh : A.handled = none) (hit : IsRangeIter s.heap I a n c) (hn : n ≤ 2 ^ 20)
    (hQ : ∀ (h' : Heap) (tk : Nat) (acc : Array Value), (∀ b o, b ≠ I → s.heap.get? b = some o → h'.get? b = some o) → ItemsOf (fun i v => ∃ t, v = .int (a + i * c) t) acc n → Q acc.toList { s with heap := h', toks := tk }) :
    wpAny (model prog w) A (collect (.ref I)) Q E s := by
  have W := (Walks.range (prog := prog) (w := w) (A := A.in1) hh I a c n).toS
  have e0 : a + ((0 : Nat) : Int) * c = a := by simp
  have e1 : (n : Int) - ((0 : Nat) : Int) = n := by omega
  refine wpAny_collect_iter_range W (fun i s' st => ⟨_, st, rfl⟩) (by show IsRangeIter s.heap I (a + ((0 : Nat) : Int) * c) ((n : Int) - ((0 : Nat) : Int)) c; rw [e0, e1]; exact hit) (fun b hb => ?_) (List.mem_singleton.mpr rfl) (fun s1 Q' E' st hk => ?_) (fun s' acc hm hi => ?_) (by rw [sizeLine_eq]; omega)
  · rw [List.mem_singleton.mp hb]; exact Heap.lt_size hit
  · have st : IsRangeIter s1.heap I (a + ((0 : Nat) : Int) * c) ((n : Int) - ((0 : Nat) : Int)) c := st
    rw [e0, e1] at st
    refine ri_hint st fun u tk h => hk _ u tk h ?_
    rw [Int.toNat_natCast]
    unfold Builtin.List.listTooLong
    rw [sizeLine_eq]
    exact decide_eq_false (by omega)
  · rw [Moved.eq_with hm]
    exact hQ s'.heap s'.toks acc (fun b o hb e => hm.heap b o (fun z => hb (List.mem_singleton.mp z)) e) hi
theorem code_tuple_new_ri {a c : Int} {n : Nat} {Q₁ : Value → Shared → Prop} (hh : A.handled = none) (hit : IsRangeIter s.heap I a n c) (hn : n ≤ 2 ^ 20)
    (h : ∀ (h' : Heap) (tk : Nat) (acc : Array Value), (∀ b o, b ≠ I → s.heap.get? b = some o → h'.get? b = some o) → ItemsOf (fun i v => ∃ t, v = .int (a + i * c) t) acc n →
      Q₁ (.ref h'.objs.size) { s with heap := h'.push { cls := .type "tuple", data := .seq acc }, toks := tk }) :
    codeAny (model prog w) A (.call (.builtin "tuple.__new__") ⟨[.type "tuple", .ref I], []⟩) (wants Q₁ E) s := by
  refine codeAny_of_tree ?_
  show wpAny _ A.in1 (do checkBuiltinCall "tuple.__new__" ⟨[.type "tuple", .ref I], []⟩; again (.builtin "tuple.__new__" ⟨[.type "tuple", .ref I], []⟩)) _ _ s
  refine wpAny_bind (wpAny_of_eq (F.newCall_tuple_1 _) (wpAny_pure ⟨plainId_quiet F.plain_tuple_new _, codeAny_builtin F.entry_tuple_new ?_⟩))
  rw [Around.under_plainId F.plain_tuple_new _]
  have hsub := sub_tuple_self
  have hinit := init_tuple_lookup
  have hmh := madeHere_tuple
  have hTI : s.TypeIs (.ref I) "range_iterator" := ⟨_, hit, rfl⟩
  have hh1 : A.in1.handled = none := hh
  wp_walk using wpAny_typeOf hTI, collect_ri (A := A.in1) hh1 hit hn
  intro h' tk acc hk hacc
  show wpAny _ _ (Builtin.Tuple.tupleExact acc.toList.toArray >>= fun v => ret v) _ _ _
  unfold Builtin.Tuple.tupleExact
  refine wpAny_bind (wpAny_newObj_type ?_ (by show acc.toList.toArray.size ≤ sizeLine; simp only [Array.toArray_toList]; rw [hacc.1, sizeLine_eq]; omega))
  refine wpAny_pure ?_
  have e : acc.toList.toArray = acc := by simp
  rw [e]
  exact h h' tk acc hk hacc
theorem call_tuple_ri {a c : Int} {n : Nat} {Q : Value → Shared → Prop} (hh : A.handled = none) (hit : IsRangeIter s.heap I a n c) (hn : n ≤ 2 ^ 20)
    (hQ : ∀ (h' : Heap) (tk : Nat) (acc : Array Value), (∀ b o, b ≠ I → s.heap.get? b = some o → h'.get? b = some o) → ItemsOf (fun i v => ∃ t, v = .int (a + i * c) t) acc n →
      Q (.ref h'.objs.size) { s with heap := h'.push { cls := .type "tuple", data := .seq acc }, toks := tk }) :
    wpAny (model prog w) A (call (.type "tuple") [.ref I]) Q E s := by
  refine callType_codes (Q₁ := fun obj s₁ => s₁.TypeIs obj "tuple" ∧ Q obj s₁) F.called_tuple (F.typeCall_tuple_1 _) F.entry_object_init
    (code_tuple_new_ri (A := A.in1) hh hit hn fun h' tk acc hk hacc => ⟨⟨_, Heap.get?_push_size _ rfl, rfl⟩, hQ h' tk acc hk hacc⟩) fun obj s₁ h₁ => ?_
  exact ⟨h₁.1, F.args_object_init_2 obj _, object_init_meets F.called_tuple.init.lookup F.called_tuple.made (by decide) prog w A.in1 _ s₁ ⟨h₁.1, rfl, h₁.2⟩⟩
end
/-- the ints b - 1 .. a -/
def rvV (a b : Int) : List V := (List.range (b - a).toNat).map fun i => V.int (a + (((b - a).toNat : Nat) : Int) - 1 - (i : Nat))
theorem vals_rv {a b : Int} {acc : Array Value} (h : ItemsOf (fun i v => ∃ t, v = .int (a + (((b - a).toNat : Nat) : Int) - 1 + i * (-1)) t) acc (b - a).toNat) : Vals (rvV a b) acc.toList := by
  have e : acc.toList.length = (b - a).toNat := by rw [Array.length_toList]; exact h.1
  have f := vals_of_get acc.toList (fun i => V.int (a + (((b - a).toNat : Nat) : Int) - 1 - (i : Nat))) fun j u hj => by
    obtain ⟨t, rfl⟩ := h.2 j u (by rw [← hj, Array.getElem?_toList])
    refine ⟨t, ?_⟩
    congr 1
    omega
  rw [e] at f
  exact f
def tTupRv (te : L2.St → Hp → (Int → Int → Hp → Prop) → Prop) : TE := fun σ H Q => te σ H fun a b H1 => RgOk a b ∧ (b - a).toNat ≤ 1000 ∧ ∀ q, H1 q = none → Q (.ref q) (upd H1 q (.tup (rvV a b)))
section
variable {X : Cx} {e : Expr} {te : L2.St → Hp → (Int → Int → Hp → Prop) → Prop}
theorem pe_tupRv {p pos p2 pos2 : Pos} (hc : X.calm = true) (hg : Gl X "tuple") (hm : X.mg "tuple" = none) (hg2 : Gl X "reversed") (hm2 : X.mg "reversed" = none) (he : PRg X e te)
    (hs : starEach [e] X.env = (false, eval e X.env) :: starEach [] X.env := by rfl)
    (na : starEach [.Call (.Name "reversed" p2) [e] [] pos2] X.env = (false, eval (.Call (.Name "reversed" p2) [e] [] pos2) X.env) :: starEach [] X.env := by rfl) :
    PE X (.Call (.Name "tuple" p) [.Call (.Name "reversed" p2) [e] [] pos2] [] pos) (tTupRv te) := by
  refine ⟨fun pins s σ H Q I h => ?_⟩
  refine Call_ (ld_blt I hg hm boot_tuple (PyProof.Rows.callWith_type1 (args_cons ?_ na) na))
  refine Call_ (ld_blt I hg2 hm2 PyProof.Rows.boot_reversed (PyProof.Rows.callWith_type1 (args_cons (thn (he pins s σ H _ I h) fun u s1 hx => args_nil ?_) hs) hs rfl))
  obtain ⟨r, a, b, t, w1, v, H1, eu, hr, I1, ok, hle, q⟩ := hx
  subst eu
  obtain ⟨b1, b2, b3, b4, b5⟩ := ok
  have hn : Builtin.Range.rangeSize a b 1 = (((b - a).toNat : Nat) : Int) := rangeSize_nat a b
  refine call_reversed_range hr (smallRev_one b1 b2 b3 b4) (args_nil ?_)
  have I2 : Inv X pins σ H1 { s1 with heap := s1.heap.push (rngRevObj a b 1) } := I1.kept (t' := s1.toks) fun b o e => Heap.get?_push_of_some _ e
  have hit : IsRangeIter (s1.heap.push (rngRevObj a b 1)) s1.heap.objs.size (a + (((b - a).toNat : Nat) : Int) - 1) (((b - a).toNat : Nat) : Int) (-1) := by
    have := Heap.get?_push_size s1.heap (o := rngRevObj a b 1) rfl
    unfold rngRevObj at this
    rw [hn] at this
    have e2 : a + ((((b - a).toNat : Nat) : Int) - 1) * 1 = a + (((b - a).toNat : Nat) : Int) - 1 := by omega
    rw [e2] at this
    unfold rngRevObj
    rw [hn, e2]
    exact this
  refine call_tuple_ri (I1.ok.hd hc) hit (by omega) fun h' tk acc hk hi => ?_
  have ri := FbM.rec_new I1 (Nat.le_refl _)
  have I3 : Inv X pins σ H1 { s1 with heap := h', toks := tk } := ri.turn (s := { s1 with heap := s1.heap.push (rngRevObj a b 1) }) (t' := tk) I2 (I1.hok.fresh (Nat.le_refl _)) fun c o hc e => hk c o hc e
  refine ⟨.ref h'.objs.size, upd H1 h'.objs.size (.tup (rvV a b)), I3.laid (t' := tk) (fun c o e => Heap.get?_push_of_some _ e) (Nat.le_refl _) (show ObjOk X.prog X.w _ _ _ (.tup (rvV a b)) from ⟨?_, acc.toList, vals_rv hi, ?_⟩), rfl, q _ (I3.hok.fresh (Nat.le_refl _))⟩
  · unfold rvV
    rw [List.length_map, List.length_range, sizeLine_eq]; omega
  · rw [Array.toArray_toList]; exact IsTup.new _ _
end
/-- n - 1, .., 0 -/
def rrange (n : Nat) : List Int := (List.range n).map fun (i : Nat) => (n : Int) - 1 - (i : Int)
theorem rrange_eq (n : Nat) : rrange n = (irange 0 n).reverse := by
  unfold rrange irange
  refine List.ext_getElem (by simp) fun i h1 h2 => ?_
  simp at h1
  simp
  omega
section
variable {K : PySem.W.Frag} {r : Rho} {ta : TE} {n : Int}
theorem ev_tupRv (ha : EvD K ta r (.int n)) (h0 : 0 ≤ n) (h1 : n ≤ 1000) : EvD K (tTupRv (tRg1 ta)) r (tI (irange 0 n.toNat).reverse) := fun B H s E Q k =>
  ha B H s E _ fun v B1 H1 x1 h => by
    cases h
    refine ⟨n, rfl, .of_le (by omega) (by omega) (by omega) (by omega), by omega, fun q hq => ?_⟩
    refine k _ _ _ (x1.trans (.new x1.i hq)) ?_
    have e : rvV 0 n = (irange 0 n.toNat).reverse.map V.int := by
      rw [← rrange_eq]
      unfold rvV rrange
      rw [List.map_map, Int.sub_zero, Int.zero_add]; rfl
    rw [e]
    exact .tup (.of upd_same) (dpa_ints _)
end
end Od

namespace Od
open PySem PySem.Spec PyProof.Rows L2

/-! ### sorted(range(..), key=lambda x: a pair of ints) -/
abbrev kD (k : Int × Int) : PyData := .tuple [.int k.1, .int k.2]
/-- the keys, item by item -/
def rSk (K : PySem.W.Frag) (c' : Addr) (q : Str) (tb : TE) (σ : L2.St) (Q : List (Int × Int) → Hp → Prop) : List V → List (Int × Int) → Hp → Prop
  | [], ks, H => Q ks H
  | x :: r, ks, H => tb (σ ++ [some x]) H fun kv H' => ∃ t k, kv = .ref t ∧ SqT K H' t [.int k.1, .int k.2] ∧ H' c' = some (LamX.CodeO c' q) ∧ rSk K c' q tb σ Q r (ks ++ [k]) H'
/-- the items in the order of their keys -/
def byKeys (xs : List V) (ks : List (Int × Int)) : List V := ((xs.zip ks).mergeSort (PySem.W.dataLe false fun p => kD p.2)).map (·.1)
theorem each_zip : ∀ {xs : List V} {vs : List Value} {ks : List (Int × Int)}, Vals xs vs → ks.length = xs.length → PySem.W.EachIs (fun (v : Value) (p : V × (Int × Int)) => RelV p.1 v) vs (xs.zip ks)
  | _, _, [], .nil, _ => .nil
  | _, _, k :: ks, .nil, h => by simp at h
  | _, _, [], .cons _ _, h => by simp at h
  | _, _, k :: ks, .cons r t, h => .cons r (each_zip t (by simpa using h))
theorem vals_each : ∀ {out : List Value} {bs : List (V × (Int × Int))}, PySem.W.EachIs (fun (v : Value) (p : V × (Int × Int)) => RelV p.1 v) out bs → Vals (bs.map (·.1)) out
  | _, _, .nil => .nil
  | _, _, .cons r t => .cons r (vals_each t)
theorem zip_keys : ∀ {xs : List V} {ks : List (Int × Int)}, ks.length = xs.length → (xs.zip ks).map (fun p => kD p.2) = ks.map kD
  | [], [], _ => rfl
  | x :: xs, [], h => by simp at h
  | [], k :: ks, h => by simp at h
  | x :: xs, k :: ks, h => by
    rw [List.zip_cons_cons, List.map_cons, List.map_cons, zip_keys (by simpa using h)]
theorem byKeys_perm {xs : List V} {ks : List (Int × Int)} (h : ks.length = xs.length) : (byKeys xs ks).Perm xs := by
  have p := (List.mergeSort_perm (xs.zip ks) (PySem.W.dataLe false fun p => kD p.2)).map (·.1)
  have e : (xs.zip ks).map (·.1) = xs := List.map_fst_zip (by omega)
  rw [e] at p
  exact p
section
variable {X : Cx} {pins : List (Addr × Obj)} {σ : L2.St}
/-- an unknown record of ours becomes known -/
theorem inv_taken {H : Hp} {s : Shared} {a : Addr} {o : HO} (r : FbM.Rec X pins a) (I : Inv X pins σ H s) (n : H a = none) (new : ObjOk X.prog X.w (upd H a o) s.heap a o) : Inv X pins σ (upd H a o) s := by
  refine I.step (g' := s.gens) (d' := s.drawn) (t' := s.toks) (h' := s.heap) (ch := [a]) (fun b hb => ?_) (fun b o _ _ hc e _ => e) (fun b o _ _ hc e _ => ⟨o.slots, e⟩) (fun b o hc e n' => ?_) (fun b o hc e => ⟨o, e⟩) (fun b xs e => ?_) (fun b o u e => ?_) (fun b ps e => ⟨#[], ?_⟩) (fun m hm => hm) (fun b u e => ?_) I.bare
  · have e : b = a := List.mem_singleton.mp hb
    subst e
    exact ⟨.inr r.ge, r.nl, r.ce, r.pn⟩
  · rw [upd_ne (fun z => hc (by rw [z]; exact List.mem_singleton.mpr rfl))]; exact n'
  · rw [upd_ne (ne_of_none e n)]; exact e
  · rw [upd_ne (ne_of_none e n)]; exact e
  · rw [upd_ne (ne_of_none e n), e]; simp
  · by_cases hb : b = a
    · subst hb
      rw [upd_same] at e
      cases e
      exact new
    · rw [upd_ne hb] at e
      exact (I.hok b u e).stay (fun c v hc q => q) (fun c q => by rw [upd_ne (ne_of_none q n)]; exact q) fun c xs q => by rw [upd_ne (ne_of_none q n)]; exact q
variable {A : Around} {f c' a kS : Addr} {pm ctv : Value} {params : Arguments} {body : Expr} {scope : Scope} {k : Nat} {x : Str} {tb : TE} {xs : List V}
/-- one call of the lambda -/
theorem sk_call {H : Hp} {s : Shared} {v : V} {u : Value} {Q1 : VK} (L : Lam1 X.env.scope scope x) (hx : x ∉ X.N) (hA : A.frames = some X.stack) (hr : Room (k + 1) A)
    (hbind : ∀ u, bindArgs (PySem.W.kla_fn "<lambda>" (X.env.qual ++ "<lambda>") params body scope (cloFrom X.env.cells scope.names []) pm (.ref c') ctv) ⟨[u], []⟩ = pure [(x, u)])
    (hbody : ∀ (A : Around) (outer : List Env) (s : Shared) (H : Hp), Room k (A.deeper (LamX.lamEnv X scope s.heap.objs.size f c')) → PE (lamCx1 X A outer s H E0 scope f c' x) body tb)
    (I : Inv X pins σ H s) (hf : s.heap.get? f = some (lamObj X params body scope pm c' ctv)) (hc : H c' = some (LamX.CodeO c' (X.env.qual ++ "<lambda>"))) (rv : RelV v u) (ht : tb (σ ++ [some v]) H Q1) {P : Value → Shared → Prop} {E : Value → Shared → Prop}
    (h : ∀ ku kv H' s2, RelV kv ku → Q1 kv H' → Inv X pins σ H' s2 → (∀ b o, FbM.Rec X pins b → H b = none → s.heap.get? b = some o → s2.heap.get? b = some o ∧ H' b = none) → (∀ t ys, SqT X.K H t ys → SqT X.K H' t ys) → P ku s2) :
    wpAny (model X.prog X.w) A (call (.ref f) [u]) P E s := by
  refine wpAny_call (codeAny_mono (lam_run I L hx hA hr hf hc hbind hbody rv ht) fun rr s2 hrr => ?_)
  cases rr with
  | error e =>
    exfalso
    obtain ⟨_, _, _, _, _, _, _, _, _, _, _, _, z⟩ := (show L2.CX X.prog X.w X.stack H _ E0 e s2 from hrr)
    exact z
  | ok fl =>
    cases fl with
    | next => exact False.elim hrr
    | brk => exact False.elim hrr
    | cont => exact False.elim hrr
    | ret ku =>
      obtain ⟨kv, H', os, bare, un, hok, rv', q⟩ := (show CE X.stack X.prog X.w H _ Q1 ku s2 from hrr)
      have I2 : Inv X pins σ H' s2 := I.call' os un hok bare (fun b y => absurd y List.not_mem_nil)
      exact h ku kv H' s2 rv' q I2 (fun b o rb ub eb => ⟨un.keep _ _ eb ub rb.fr List.not_mem_nil, un.free _ _ eb ub List.not_mem_nil⟩) fun t ys z => sqt_un un z
/-- the loop that asks for the keys -/
structure SkS (X : Cx) (pins : List (Addr × Obj)) (σ : L2.St) (f c' a kS : Addr) (pm ctv : Value) (params : Arguments) (body : Expr) (scope : Scope) (tb : TE) (xs : List V) (e1 : Nat) (Q : List (Int × Int) → Hp → Prop) (i : Nat) (H : Hp) (ks : List (Int × Int)) (kA : Array Value) (e : Nat) (s : Shared) : Prop where
  I : Inv X pins σ H s
  uf : H f = none
  ua : H a = none
  uk : H kS = none
  hc : H c' = some (LamX.CodeO c' (X.env.qual ++ "<lambda>"))
  hf : s.heap.get? f = some (lamObj X params body scope pm c' ctv)
  nk : s.heap.get? kS = some (seqObj "list" kA e)
  na : s.heap.get? a = some (seqObj "list" #[] e1)
  ek : PySem.W.EachIs (fun v (k : Int × Int) => ∃ t, v = Value.ref t ∧ SqT X.K H t [.int k.1, .int k.2]) kA.toList ks
  hl : ks.length = i
  hq : rSk X.K c' (X.env.qual ++ "<lambda>") tb σ Q (xs.drop i) ks H
theorem kD_depth (k : Int × Int) : (kD k).depth = 1 := by simp [PyData.depth, PyData.depthAll]
theorem sk_rest {H : Hp} {s : Shared} {e1 : Nat} {vs : List Value} {Q : List (Int × Int) → Hp → Prop} (L : Lam1 X.env.scope scope x) (hx : x ∉ X.N) (hA : A.frames = some X.stack) (hr : Room (k + 1) A)
    (hbind : ∀ u, bindArgs (PySem.W.kla_fn "<lambda>" (X.env.qual ++ "<lambda>") params body scope (cloFrom X.env.cells scope.names []) pm (.ref c') ctv) ⟨[u], []⟩ = pure [(x, u)])
    (hbody : ∀ (A : Around) (outer : List Env) (s : Shared) (H : Hp), Room k (A.deeper (LamX.lamEnv X scope s.heap.objs.size f c')) → PE (lamCx1 X A outer s H E0 scope f c' x) body tb)
    (rf : FbM.Rec X pins f) (ra : FbM.Rec X pins a) (rk : FbM.Rec X pins kS) (hka : kS ≠ a) (hkf : f ≠ kS) (rvs : Vals xs vs) (hz : xs.length ≤ sizeLine)
    (S0 : SkS X pins σ f c' a kS pm ctv params body scope tb xs e1 Q 0 H [] #[] 0 s) {P : PySem.Fin → Shared → Prop} {E : Value → Shared → Prop}
    (h : ∀ ks H' s', Q ks H' → ks.length = xs.length → H' a = none → Inv X pins σ (upd H' a (.lst (byKeys xs ks))) s' → P (.done (.ret .none)) s') :
    wpAny (model X.prog X.w) A (ksk_rest a (.ref f) false vs.toArray e1 (.ref kS)) P E s := by
  have hlen := rvs.length
  unfold ksk_rest
  refine wpAny_bind (wpAny_rule ?_)
  first
    | rw [List.forIn_toArray]
    | (rw [← Array.forIn_toList]; simp only [List.toList_toArray])
    | rw [← Array.forIn_toList]
  refine wpAny_bind (ksk_fold (fun i s' => ∃ H ks kA e, SkS X pins σ f c' a kS pm ctv params body scope tb xs e1 Q i H ks kA e s') vs 0 s ⟨H, [], #[], 0, S0⟩ ?step ?done)
  case step =>
    rintro j u s' hu ⟨H, ks, kA, e, S⟩
    simp only [Nat.zero_add] at S ⊢
    have hj : j < vs.length := (List.getElem?_eq_some_iff.mp hu).1
    have hjx : j < xs.length := by omega
    obtain ⟨u', hu', ru⟩ := rvs.get (List.getElem?_eq_getElem hjx)
    rw [hu] at hu'
    cases hu'
    have hq := S.hq
    rw [List.drop_eq_getElem_cons hjx] at hq
    have hsz : kA.size ≤ xs.length := by
      have h1 := S.ek.length
      rw [Array.length_toList, S.hl] at h1
      omega
    refine wpAny_bind (wpAny_attempt (sk_call L hx hA hr hbind hbody S.I S.hf S.hc ru hq fun ku kv H' s2 rk' q I2 keep keepT => ?_))
    obtain ⟨t, kk, rfl, hkt, hc2, hq2⟩ := q
    obtain rfl : ku = Value.ref t := rk'
    try dsimp only
    obtain ⟨nk2, uk2⟩ := keep _ _ rk S.uk S.nk
    obtain ⟨na2, ua2⟩ := keep _ _ ra S.ua S.na
    obtain ⟨nf2, uf2⟩ := keep _ _ rf S.uf S.hf
    have s1 := Heap.SameBut.update s2.heap kS (Obj.mapSeq (·.push (Value.ref t)))
    obtain ⟨c2, hc3⟩ : ∃ c2, (s2.heap.update kS (Obj.mapSeq (·.push (Value.ref t)))).get? kS = some (seqObj "list" (kA.push (Value.ref t)) c2) := ⟨_, get?_update_seq nk2 (·.push (Value.ref t))⟩
    refine wpAny_bind (listUpdate_at nk2 rfl ?_ (Nat.le_trans hsz hz) (Nat.le_trans (Nat.le_of_eq (Array.size_push ..)) (Nat.succ_le_succ (Nat.le_trans hsz hz))))
    have I3 : Inv X pins σ H' { s2 with heap := s2.heap.update kS (Obj.mapSeq (·.push (Value.ref t))) } := rk.turn (t' := s2.toks) I2 uk2 fun c o hc e => (s1.2 c hc).trans e
    refine wpAny_pure ⟨rfl, H', ks ++ [kk], kA.push (Value.ref t), c2, I3, uf2, ua2, uk2, hc2, (s1.2 f hkf).trans nf2, hc3, (s1.2 a hka.symm).trans na2, ?_, by rw [List.length_append, S.hl]; rfl, hq2⟩
    rw [show (kA.push (Value.ref t)).toList = kA.toList ++ [Value.ref t] by simp]
    exact PySem.W.each_snoc ⟨t, rfl, hkt⟩ (S.ek.mono fun v k ⟨t', e', z⟩ => ⟨t', e', keepT _ _ z⟩)
  case done =>
    rintro s' ⟨H, ks, kA, e, S⟩
    have hkl : ks.length = xs.length := by
      have := S.hl
      omega
    have hq := S.hq
    rw [List.drop_eq_nil_of_le (by omega)] at hq
    have hq : Q ks H := hq
    have hsz : kA.size = vs.length := by
      have h1 := S.ek.length
      rw [Array.length_toList] at h1
      omega
    have hk' : PySem.W.EachIs (fun v d => ∃ as, Reads s'.heap v d as) kA.toList ((xs.zip ks).map fun p => kD p.2) := by
      rw [zip_keys hkl]
      refine PySem.W.each_map kD (S.ek.mono fun v k ⟨t, e', z⟩ => ?_)
      subst e'
      obtain ⟨t1, t2, o, ho, hcl, n, hd⟩ := tup2_at S.I z
      exact ⟨_, .tuple ho hcl hd (.cons (.int _ _) (.cons (.int _ _) .nil))⟩
    have hal : PySem.W.AllAlike ((xs.zip ks).map fun p => kD p.2) := PySem.W.AllAlike.of fun _ _ => by simp [PySem.W.alike, PySem.W.alikeAll]
    have hso : PySem.W.Sortable ((xs.zip ks).map fun p => kD p.2) := PySem.W.Sortable.tuples fun _ => ⟨_, _, rfl⟩
    refine wpAny_bind (listItems_at S.nk rfl ?_)
    refine PySem.W.keyH_end (κ := PySem.W.dataKind s'.heap ((xs.zip ks).map fun p => kD p.2)) (h₁ := s'.heap.hide kS) (fun b o _ q => Heap.of_hide q) (Heap.hide_self _ _) S.nk S.na hka
      (PySem.W.SortsAt.data (s := s') hk' hal hso fun d hd => ?_) hsz (by omega) fun h3 tk3 c kp n3 => ?_
    · obtain ⟨p, _, rfl⟩ := List.mem_map.mp hd
      rw [kD_depth]
      have := hr.units
      omega
    · have ko : PySem.W.KeyedOut false ((xs.zip ks).map fun p => kD p.2) vs (PySem.W.sortVals (PySem.W.dataKind s'.heap ((xs.zip ks).map fun p => kD p.2)) false kA.toList vs) := ⟨s'.heap, kA.toList, hal, rfl, hk'⟩
      have eo := PySem.W.keyedOut_each (fun p : V × (Int × Int) => kD p.2) ko (each_zip rvs hkl)
      have hv : Vals (byKeys xs ks) _ := vals_each eo
      have I1 : Inv X pins σ H { s' with heap := s'.heap.hide kS } := rk.turn (t' := s'.toks) S.I S.uk fun c o hc e => (Heap.hide_ne _ hc).trans e
      have I2 : Inv X pins σ H { s' with heap := h3, toks := tk3 } := ra.turn (s := { s' with heap := s'.heap.hide kS }) (t' := tk3) I1 S.ua fun c o hc e => kp c o hc e
      refine h ks H _ hq hkl S.ua (inv_taken ra I2 S.ua ⟨?_, _, c, hv, n3⟩)
      rw [(byKeys_perm hkl).length_eq]; exact hz
end
end Od

namespace Od
open PySem PySem.Spec PyProof.Rows L2
/-! ### the lambda is made; what is kept -/
section
variable {X : Cx} {pins : List (Addr × Obj)} {σ : L2.St} {H : Hp} {s : Shared}
theorem lam_make4 {c : Addr} {params : Arguments} {body : Expr} {scope : Scope} {pos : Pos} {E : Value → Shared → Prop} {Q : Value → Shared → Prop} (I : Inv X pins σ H s) (TB : LamX.TabB X.base X.mg c PL) (hcode : X.env.code = .ref c)
    (hq : X.env.qual ++ "<lambda>" = QL) (hT : LamX.TabS H PL QL) (hdef : defaultsOf params X.env = ([], [])) (hfree : ∀ y ∈ scope.names, y.2 = .free → ∃ c, X.env.cells.lookup y.1 = some c)
    (h : ∀ (f c' : Addr) (pm ctv : Value) (H1 : Hp) (s' : Shared), Inv X pins σ H1 s' → (∀ B, Same B H → B PL = none → Stp B H B H1) → s'.heap.get? f = some (lamObj X params body scope pm c' ctv) → H1 f = none → f ∉ frs X.stack → FbM.Rec X pins f → H1 c' = some (LamX.CodeO c' (X.env.qual ++ "<lambda>")) → (∀ b o, H b = none → s.heap.get? b = some o → s'.heap.get? b = some o ∧ (b ≠ f ∧ H1 b = none)) → Q (.ref f) s') :
    wpAny (model X.prog X.w) X.A (eval (.Lambda params body scope pos) X.env) Q E s := by
  rw [← hq] at hT
  obtain ⟨ps, hP, ht, ha⟩ := id hT
  refine PySem.W.kla_eval hdef ?_
  have bP : s.heap.BuiltinsAt X.mg PL := TB.bm.keeps I.bk
  have hP' : s.heap.get? PL = some { cls := .none, data := .fields ps } := I.hok PL _ hP
  have nofr : ∀ f, s.heap.objs.size ≤ f → f ∉ frs X.stack := fun f hf z => by
    rcases List.mem_cons.mp (I.stkSub _ z) with e | e
    · have h1 := I.lt
      rw [← e] at h1
      exact Nat.lt_irrefl _ (Nat.lt_of_lt_of_le h1 hf)
    · exact I.nofs hf e
  cases hc : codeAmong pos ps.toList with
  | none =>
    refine PySem.W.kla_makeFunction (mg := X.mg) (c := c) (P := PL) (ps := ps) (closure_ok hfree) I.ok.glob (I.mod.glob.keeps I.bk) hcode (TB.code.keeps I.bk) hP' ht hc TB.gP bP fun c' ctv h' tk hx hge hlt hrec htb => ?_
    obtain ⟨c2, oc, vs, t, e2, hoc, hd, hv⟩ := hrec
    cases e2
    have hsz : s.heap.objs.size ≤ h'.objs.size := Nat.le_trans hge (Nat.le_of_lt hlt)
    have nC : H c' = none := I.hok.fresh hge
    have I1 := LamX.inv_table (t' := tk) (more := #[rawInt pos.line, rawInt pos.col, .ref c']) (h' := h'.push (PySem.W.kla_obj "<lambda>" (X.env.qual ++ "<lambda>") params body scope (cloFrom X.env.cells scope.names []) ((X.mg "__name__").getD .none) c' ctv)) I hP
      (fun b o hb e => Heap.get?_push_of_some _ (hx b o hb e)) (Heap.get?_push_of_some _ htb) hge ⟨oc, vs, t, Heap.get?_push_of_some _ hoc, hd, hv⟩
    have hE : LamX.ExtN H (upd (upd H PL (.tbl (ps ++ #[rawInt pos.line, rawInt pos.col, .ref c']))) c' (LamX.CodeO c' (X.env.qual ++ "<lambda>"))) := fun b o e n => by
      rw [upd_ne (ne_of_none e nC), upd_ne (fun z => n ps (Option.some.inj (e.symm.trans (by rw [z]; exact hP))))]
      exact e
    have eL : (ps ++ #[rawInt pos.line, rawInt pos.col, .ref c']).toList = ps.toList ++ [rawInt pos.line, rawInt pos.col, .ref c'] := by simp
    have G : Gro H (upd (upd H PL (.tbl (ps ++ #[rawInt pos.line, rawInt pos.col, .ref c']))) c' (LamX.CodeO c' (X.env.qual ++ "<lambda>"))) := by
      refine ⟨hE, fun b m => ?_, fun _ => ?_⟩
      · by_cases h1 : b = c'
        · rw [h1, upd_same]; exact fun z => nomatch z
        · rw [upd_ne h1]
          by_cases h2 : b = PL
          · rw [h2, upd_same]; exact fun z => nomatch z
          · rw [upd_ne h2]; exact m
      · rw [← hq]
        refine ⟨_, by rw [upd_ne (ne_of_none hP nC), upd_same], by rw [eL]; exact PySem.TriplesOk_snoc _ _ _ _ ht, fun p' cv hcv => ?_⟩
        rw [eL] at hcv
        rcases LamX.among_app _ ht hcv with z | z
        · obtain ⟨c0, e1, e2⟩ := ha p' cv z
          exact ⟨c0, e1, hE _ _ e2 LamX.codeO_ne⟩
        · exact ⟨c', z, upd_same⟩
    refine h h'.objs.size c' ((X.mg "__name__").getD .none) ctv _ _ I1 (fun B sb bn => ⟨Same.refl _, G, fun b o e => ?_, fun a n _ => n⟩) (Heap.get?_push_size _ rfl) ?_ (nofr _ hsz) (FbM.rec_new I hsz) upd_same fun b o nb e => ⟨Heap.get?_push_of_some _ (hx b o (fun z => by rw [z, hP] at nb; cases nb) e), Nat.ne_of_lt (Nat.lt_of_lt_of_le (Heap.lt_size e) hsz), by rw [upd_ne (fun z => Nat.lt_irrefl _ (Nat.lt_of_lt_of_le (Heap.lt_size (z ▸ e)) hge)), upd_ne (fun z => by rw [z, hP] at nb; cases nb)]; exact nb⟩
    · rw [upd_ne (ne_of_none (sb _ _ e) nC), upd_ne (fun z => by rw [z, bn] at e; cases e)]
      exact sb _ _ e
    · have n1 : h'.objs.size ≠ c' := Nat.ne_of_gt hlt
      have n2 : h'.objs.size ≠ PL := Nat.ne_of_gt (Nat.lt_of_lt_of_le (Heap.lt_size hP') hsz)
      rw [upd_ne n1, upd_ne n2]
      exact I.hok.fresh hsz
  | some cv =>
    obtain ⟨c', e, hco⟩ := ha pos cv hc
    subst e
    refine PySem.W.kla_makeFunctionHit (mg := X.mg) (c := c) (P := PL) (ps := ps) (closure_ok hfree) I.ok.glob (I.mod.glob.keeps I.bk) hcode (TB.code.keeps I.bk) hP' ht hc bP fun ctv h' tk hx hsz => ?_
    have I1 : Inv X pins σ H { s with heap := h'.push (PySem.W.kla_obj "<lambda>" (X.env.qual ++ "<lambda>") params body scope (cloFrom X.env.cells scope.names []) ((X.mg "__name__").getD .none) c' ctv), toks := tk } := I.kept fun b o e => Heap.get?_push_of_some _ (hx b o e)
    exact h h'.objs.size c' ((X.mg "__name__").getD .none) ctv H _ I1 (fun B sb _ => .refl sb) (Heap.get?_push_size _ rfl) (I.hok.fresh hsz) (nofr _ hsz) (FbM.rec_new I hsz) hco fun b o nb e => ⟨Heap.get?_push_of_some _ (hx b o e), Nat.ne_of_lt (Nat.lt_of_lt_of_le (Heap.lt_size e) hsz), nb⟩
end
section
variable {X : Cx} {pins : List (Addr × Obj)} {σ : L2.St} {f c' r : Addr} {pm ctv : Value} {params : Arguments} {body : Expr} {scope : Scope} {k : Nat} {x : Str} {tb : TE}
/-- sorted(range, key=f) -/
theorem sorted_rg {H : Hp} {s : Shared} {a b : Int} {t u v : Tok} {Q : List (Int × Int) → Hp → Prop} (L : Lam1 X.env.scope scope x) (hx : x ∉ X.N) (hA : X.A.frames = some X.stack) (hr : Room (k + 3) X.A)
    (hbind : ∀ u, bindArgs (PySem.W.kla_fn "<lambda>" (X.env.qual ++ "<lambda>") params body scope (cloFrom X.env.cells scope.names []) pm (.ref c') ctv) ⟨[u], []⟩ = pure [(x, u)])
    (hbody : ∀ (A : Around) (outer : List Env) (s : Shared) (H : Hp), Room k (A.deeper (LamX.lamEnv X scope s.heap.objs.size f c')) → PE (lamCx1 X A outer s H E0 scope f c' x) body tb)
    (I : Inv X pins σ H s) (rf : FbM.Rec X pins f) (uf : H f = none) (hf : s.heap.get? f = some (lamObj X params body scope pm c' ctv)) (hc : H c' = some (LamX.CodeO c' (X.env.qual ++ "<lambda>"))) (hR : IsRange s.heap r a b 1 t u v) (ok : RgOk a b)
    (hq : rSk X.K c' (X.env.qual ++ "<lambda>") tb σ Q (rgV a b) [] H) {Qf : Value → Shared → Prop} {E : Value → Shared → Prop}
    (h : ∀ ks H' s' l, Q ks H' → ks.length = (rgV a b).length → H' l = none → Inv X pins σ (upd H' l (.lst (byKeys (rgV a b) ks))) s' → Qf (.ref l) s') :
    wpAny (model X.prog X.w) X.A (call (.builtin "sorted") [.ref r] [(Str.ofString "key", .ref f)]) Qf E s := by
  obtain ⟨b1, b2, b3, b4, b5⟩ := ok
  refine call_function_entry_kw kind_sorted plain_sorted entry_sorted (ksk_s1 _ _) ?_
  unfold Builtin.«sorted»
  refine wpAny_bind (m := checkCount "sorted" 1 1 _) (wpAny_pure ?_)
  refine wpAny_bind (collect_range (n := (b - a).toNat) (show _ = none from hr.hd) hR (small_one b1 b2 b3 b4) (rangeSize_nat a b) b5 fun h' tk acc hk hi => ?_)
  have rvs := vals_rg hi
  have hz : (rgV a b).length ≤ sizeLine := by rw [rgV_length, sizeLine_eq]; omega
  have hzv : acc.toList.length ≤ sizeLine := by rw [← rvs.length]; exact hz
  have I1 : Inv X pins σ H { s with heap := h', toks := tk } := I.kept hk
  have ra := FbM.rec_new (b := h'.objs.size) I1 (Nat.le_refl _)
  have ua : H h'.objs.size = none := I1.hok.fresh (Nat.le_refl _)
  have hf1 : h'.get? f = some (lamObj X params body scope pm c' ctv) := hk _ _ hf
  have hfl : f < h'.objs.size := Heap.lt_size hf1
  refine wpAny_bind (wpAny_newList ?_ hzv)
  have hoL : (h'.push (seqObj "list" acc.toList.toArray 0)).get? h'.objs.size = some (seqObj "list" acc.toList.toArray 0) := Heap.get?_push_size _ rfl
  refine wpAny_bind (wpAny_holding (wpAny_call_entry_kw slot_list_sort ⟨_, hoL, rfl⟩ entry_list_sort ?body (ksk_l1 _ _)))
  case body =>
    show wpAny (model X.prog X.w) X.A.in1.in1 (Builtin.«list.sort» ⟨[.ref h'.objs.size], [(Str.ofString "key", .ref f)]⟩) _ _ _
    rw [ksk_t1]
    generalize hh1 : h'.push (seqObj "list" acc.toList.toArray 0) = h1 at hoL ⊢
    have k1 : ∀ b o, h'.get? b = some o → h1.get? b = some o := fun b o e => by rw [← hh1]; exact Heap.get?_push_of_some _ e
    have I2 : Inv X pins σ H { s with heap := h1, toks := tk } := I1.kept (t' := tk) k1
    have sz1 : h'.objs.size ≤ h1.objs.size := by rw [← hh1, Heap.size_push]; exact Nat.le_succ _
    obtain ⟨e1, ho1⟩ : ∃ e1, (h1.update h'.objs.size (Obj.mapSeq fun _ => (#[] : Array Value))).get? h'.objs.size = some (seqObj "list" #[] e1) := ⟨_, get?_update_seq hoL fun _ => #[]⟩
    have s1 := Heap.SameBut.update h1 h'.objs.size (Obj.mapSeq fun _ => (#[] : Array Value))
    have I3 : Inv X pins σ H { s with heap := h1.update h'.objs.size (Obj.mapSeq fun _ => (#[] : Array Value)), toks := tk } := ra.turn (s := { s with heap := h1, toks := tk }) (t' := tk) I2 ua fun c o hc e => (s1.2 c hc).trans e
    unfold ksk_tree
    refine wpAny_bind (listItems_at hoL rfl ?_)
    refine wpAny_bind (listUpdate_at hoL rfl ?_ (by rw [List.size_toArray]; exact hzv) (Nat.zero_le _))
    refine wpAny_bind (seqEpoch_at ho1 rfl ?_)
    refine wpAny_bind (wpAny_newTuple ?_ (by show acc.toList.length ≤ _; exact hzv))
    refine wpAny_bind (wpAny_newList ?_ (Nat.zero_le _))
    refine wpAny_holding ?_
    have szu : (h1.update h'.objs.size (Obj.mapSeq fun _ => (#[] : Array Value))).objs.size = h1.objs.size := Heap.size_update ..
    generalize hh2 : h1.update h'.objs.size (Obj.mapSeq fun _ => (#[] : Array Value)) = h2 at *
    have hks : (h2.push (seqObj "tuple" acc.toList.toArray 0)).objs.size = h2.objs.size + 1 := Heap.size_push ..
    have hlk : h'.objs.size < (h2.push (seqObj "tuple" acc.toList.toArray 0)).objs.size := by omega
    have k2 : ∀ b o, h2.get? b = some o → ((h2.push (seqObj "tuple" acc.toList.toArray 0)).push (seqObj "list" #[] 0)).get? b = some o := fun b o e => Heap.get?_push_of_some _ (Heap.get?_push_of_some _ e)
    have I4 : Inv X pins σ H { s with heap := (h2.push (seqObj "tuple" acc.toList.toArray 0)).push (seqObj "list" #[] 0), toks := tk } := I3.kept (t' := tk) k2
    refine sk_rest (A := X.A.in1.in1) (f := f) (c' := c') (pm := pm) (ctv := ctv) (params := params) (body := body) (scope := scope) (tb := tb) (Q := Q) L hx hA hr.in1.in1 hbind hbody rf ra (FbM.rec_new I1 (Nat.le_of_lt hlk)) (Nat.ne_of_gt hlk) (Nat.ne_of_lt (Nat.lt_trans hfl hlk)) rvs hz
      ⟨I4, uf, ua, I1.hok.fresh (Nat.le_of_lt hlk), hc, k2 _ _ ((s1.2 f (Nat.ne_of_lt hfl)).trans (k1 _ _ hf1)), Heap.get?_push_size _ rfl, k2 _ _ ho1, .nil, rfl, hq⟩ fun ks H' s' hq' hkl hn I' => ?_
    exact ⟨_, rfl, wpAny_pure ⟨_, rfl, h ks H' s' _ hq' hkl hn I'⟩⟩
/-- range(n), its object new -/
theorem prgx_1 {X : Cx} {a : Expr} {ta : TE} {p pos : Pos} (hg : Gl X "range") (hm : X.mg "range" = none) (ha : PE X a ta) (na : starEach [a] X.env = (false, eval a X.env) :: starEach [] X.env)
    {pins : List (Addr × Obj)} {s : Shared} {σ : L2.St} {H : Hp} {Q : Int → Int → Hp → Prop} (I : Inv X pins σ H s) (h : tRg1 ta σ H Q) :
    wpAny (model X.prog X.w) X.A (eval (.Call (.Name "range" p) [a] [] pos) X.env) (fun x s' => ∃ r a b t u v H', x = .ref r ∧ IsRange s'.heap r a b 1 t u v ∧ H' r = none ∧ Inv X pins σ H' s' ∧ Q a b H') X.xe s := by
  refine Call_ (ld_blt I hg hm boot_range (PyProof.Rows.callWith_type1 (one_arg ha I h (fun v s2 x H2 I2 r q => ?_) na) na))
  obtain ⟨n, rfl, q⟩ := q
  obtain ⟨t, rfl⟩ := r
  exact call_range_1 ⟨_, 0, n, _, _, _, H2, rfl, IsRange.new _ _ _ _ _ _ _, I2.hok.fresh (Nat.le_refl _), I2.kept fun b u e => Heap.get?_push_of_some _ e, q⟩
end
def tSrtL (K : PySem.W.Frag) (q : Str) (ta tb : TE) : TE := fun σ H Q => tRg1 ta σ H fun a b H1 => RgOk a b ∧ LamX.TabS H1 PL QL ∧ ∀ c' H2, (∀ B, Same B H1 → B PL = none → Stp B H1 B H2) → H2 c' = some (LamX.CodeO c' q) →
  rSk K c' q tb σ (fun ks H3 => ks.length = (rgV a b).length → ∀ l, H3 l = none → Q (.ref l) (upd H3 l (.lst (byKeys (rgV a b) ks)))) (rgV a b) [] H2
theorem pe_sortedL {X : Cx} {K : PySem.W.Frag} {k : Nat} {c : Addr} {q : Str} {e : Expr} {params : Arguments} {body : Expr} {scope : Scope} {lpos kpos p pos p2 pos2 : Pos} {x : Str} {ta tb : TE} (hK : X.K = K) (hg : Gl X "sorted") (hm : X.mg "sorted" = none) (hg2 : Gl X "range") (hm2 : X.mg "range" = none) (ha : PE X e ta)
    (TB : LamX.TabB X.base X.mg c PL) (hcode : X.env.code = .ref c) (hq : X.env.qual ++ "<lambda>" = q) (hqL : q = QL) (L : Lam1 X.env.scope scope x) (hx : x ∉ X.N) (hr : Room (k + 3) X.A)
    (hbody : ∀ (A : Around) (outer : List Env) (s : Shared) (H : Hp) (f c' : Addr), Room k (A.deeper (LamX.lamEnv X scope s.heap.objs.size f c')) → PE (lamCx1 X A outer s H E0 scope f c' x) body tb)
    (hdef : defaultsOf params X.env = ([], []) := by rfl)
    (hbind : ∀ (q : Str) (cl : List (Str × Addr)) (pm cv ctv u : Value), bindArgs (PySem.W.kla_fn "<lambda>" q params body scope cl pm cv ctv) ⟨[u], []⟩ = pure [(x, u)] := by intros; rfl)
    (na : starEach [e] X.env = (false, eval e X.env) :: starEach [] X.env := by rfl)
    (he : backTo pos (starEach [.Call (.Name "range" p2) [e] [] pos2] X.env) = (false, eval (.Call (.Name "range" p2) [e] [] pos2) X.env) :: backTo pos (starEach [] X.env) := by rfl) (hpl : (backTo pos (starEach [.Call (.Name "range" p2) [e] [] pos2] X.env)).any (·.1) = false := by rfl)
    (hs : starEach [.Call (.Name "range" p2) [e] [] pos2] X.env = (false, eval (.Call (.Name "range" p2) [e] [] pos2) X.env) :: starEach [] X.env := by rfl)
    (hall : (backToKw pos (keywordEach [⟨some "key", .Lambda params body scope lpos, kpos⟩] X.env)).all (·.1.isSome) = true := by rfl) (hnone : (backToKw pos (keywordEach [⟨some "key", .Lambda params body scope lpos, kpos⟩] X.env)).any (·.1.isNone) = false := by rfl)
    (hks : (backToKw pos (keywordEach [⟨some "key", .Lambda params body scope lpos, kpos⟩] X.env)).filterMap (·.1) = [Str.ofString "key"] := by rfl) :
    PE X (.Call (.Name "sorted" p) [.Call (.Name "range" p2) [e] [] pos2] [⟨some "key", .Lambda params body scope lpos, kpos⟩] pos) (tSrtL K q ta tb) := by
  subst hK
  refine ⟨fun pins s σ H Q I h => ?_⟩
  refine wpAny_Call_Name_kw (ld_blt I hg hm boot_sorted ?_ (by decide) (by decide))
  refine PyProof.Rows.callWith_kw (args_cons (thn (prgx_1 hg2 hm2 ha na I h) fun u s1 hx1 => args_nil ?_) hs) he hpl hall hnone
  obtain ⟨r, a, b, t, w1, v, H1, eu, hR, ur, I1, ok, hT, hcont⟩ := hx1
  subst eu
  rw [hks]
  show wpAny _ _ (evalAll ((do let v ← eval (.Lambda params body scope lpos) X.env; standAt pos; pure v) :: (backToKw pos (keywordEach [] X.env)).map (·.2))) _ _ s1
  refine wpAny_evalAll_cons (wpAny_bind (lam_make4 I1 TB hcode (hq.trans hqL) hT hdef (L.has I1.ok) fun f c' pm ctv H2 s2 I2 st hf hfn hfr rf hc keep => ?_))
  refine wpAny_bind (wpAny_standAt (wpAny_pure ?_))
  refine wpAny_evalAll_nil ?_
  subst hq
  have hR2 : IsRange s2.heap r a b 1 t w1 v := (keep _ _ ur hR).1
  exact sorted_rg (k := k) L hx I2.ok.frames hr (fun u => hbind _ _ _ _ _ u) (fun A outer s H hr' => hbody A outer s H f c' hr') I2 rf hfn hf hc hR2 ok (hcont c' H2 st hc) fun ks H' s' l hq' hkl hn I' => ⟨.ref l, _, I', rfl, hq' hkl l hn⟩
/-- the items of ns in the order of their keys -/
def sortK (kf : Int → Int × Int) (ns : List Int) : List Int := (byKeys (ns.map V.int) (ns.map kf)).map fun v => match v with | .int i => i | _ => 0
theorem sortK_perm (kf : Int → Int × Int) (ns : List Int) : (sortK kf ns).Perm ns := by
  have p := (byKeys_perm (xs := ns.map V.int) (ks := ns.map kf) (by rw [List.length_map, List.length_map])).map fun v => match v with | .int i => i | _ => 0
  rw [List.map_map] at p
  have e : ns.map ((fun v => match v with | V.int i => i | _ => 0) ∘ V.int) = ns := by
    have : ((fun v => match v with | V.int i => i | _ => 0) ∘ V.int) = (id : Int → Int) := rfl
    rw [this, List.map_id]
  rw [e] at p
  exact p
theorem sortK_vals (kf : Int → Int × Int) (ns : List Int) : byKeys (ns.map V.int) (ns.map kf) = (sortK kf ns).map V.int := by
  have p := byKeys_perm (xs := ns.map V.int) (ks := ns.map kf) (by rw [List.length_map, List.length_map])
  unfold sortK
  rw [List.map_map]
  have : ∀ v ∈ byKeys (ns.map V.int) (ns.map kf), (V.int ∘ fun v => match v with | V.int i => i | _ => 0) v = v := fun v hv => by
    obtain ⟨i, _, rfl⟩ := List.mem_map.mp (p.mem_iff.mp hv)
    rfl
  rw [List.map_congr_left this, List.map_id']
section
variable {K : PySem.W.Frag} {s : L2.St} {r : Rho}
theorem rsk_of {c' : Addr} {q : Str} {tb : TE} {kf : Int → Int × Int} {Q : List (Int × Int) → Hp → Prop} {ns : List Int} (hb : ∀ n ∈ ns, EvD K tb (r ++ [.im (.int n)]) (.tuple [.int (kf n).1, .int (kf n).2])) :
    ∀ (l : List Int) (ks : List (Int × Int)) (B H : Hp), (∀ n ∈ l, n ∈ ns) → EnvR K B H s r → H c' = some (LamX.CodeO c' q) → (∀ B' H', Stp B H B' H' → Q (ks ++ l.map kf) H') → rSk K c' q tb s Q (l.map .int) ks H
  | [], ks, B, H, _, E, hc, k => by
    have := k B H (.refl E.i)
    rw [List.map_nil, List.append_nil] at this
    exact this
  | x :: l, ks, B, H, hm, E, hc, k => by
    refine hb x (hm x List.mem_cons_self) B H _ (E.push (.int x)) _ fun kv B3 H3 x3 hk => ?_
    obtain ⟨t, rfl, hq⟩ := dp_pair hk
    have hc3 := x3.h.e c' _ hc fun ps => LamX.codeO_ne ps
    refine ⟨t, kf x, rfl, sqt_mono x3.i hq, hc3, ?_⟩
    refine rsk_of hb l (ks ++ [kf x]) B3 H3 (fun n hn => hm n (List.mem_cons_of_mem _ hn)) (E.mono x3) hc3 fun B' H' x' => ?_
    rw [List.append_assoc]
    exact k B' H' (x3.trans x')
theorem ev_sortedL {ta tb : TE} {q : Str} {n : Int} (kf : Int → Int × Int) (ha : EvD K ta r (.int n)) (h0 : 0 ≤ n) (h1 : n ≤ 100000) (hb : ∀ i ∈ irange 0 n.toNat, EvD K tb (r ++ [.im (.int i)]) (.tuple [.int (kf i).1, .int (kf i).2])) :
    EvN K (tSrtL K q ta tb) r ((sortK kf (irange 0 n.toNat)).map .int) := fun B H s E Q k => by
  refine ha B H s E _ fun v B1 H1 x1 hv => ?_
  cases hv
  refine ⟨n, rfl, .of_le (by omega) (by omega) (by omega) (by omega), (x1.tb E.tb).t, fun c' H2 st hc => ?_⟩
  have x2 := st B1 x1.i (x1.tb E.tb).b
  have e : rgV 0 n = (irange 0 n.toNat).map V.int := by
    unfold rgV irange
    rw [List.map_map, Int.sub_zero]; rfl
  rw [e]
  refine rsk_of hb (irange 0 n.toNat) [] B1 H2 (fun _ h => h) ((E.mono x1).mono x2) hc fun B' H' x' => ?_
  intro _ l hl
  have x := (x1.trans x2).trans x'
  rw [List.nil_append, sortK_vals]
  exact k l _ B' _ (x.trans (.skip x'.i hl)) (x.h.free hl) upd_same (x'.i.free hl) (dpa_ints _)
end
end Od

namespace Od
open PySem PySem.Spec PyProof.Rows L2

/-! ### k06: rounds -/
def ordL (ns : List Int) (m : Int) (xs : List Int) (t : Int) : List Int :=
  if cell ns (3 + t) % 4 = 0 then sortK (fun h => (-(at_ xs h), h)) (irange 0 m.toNat) else if cell ns (3 + t) % 4 = 1 then (irange 0 m.toNat).reverse else permL (cell ns (3 + t) / 4) m
theorem ordL_perm {ns : List Int} {m t : Int} {xs : List Int} (hm : 0 ≤ m) : (ordL ns m xs t).Perm (irange 0 m.toNat) := by
  unfold ordL
  split
  · exact sortK_perm _ _
  · split
    · exact List.reverse_perm _
    · exact permL_perm hm
theorem ordL_mem {ns : List Int} {m t : Int} {xs : List Int} (hm : 0 ≤ m) {h : Int} : h ∈ ordL ns m xs t ↔ 0 ≤ h ∧ h < m := by
  rw [(ordL_perm hm).mem_iff, irange_mem]
  constructor
  · rintro ⟨a, b⟩; exact ⟨a, by omega⟩
  · rintro ⟨a, b⟩; exact ⟨a, by omega⟩
theorem ordL_len {ns : List Int} {m t : Int} {xs : List Int} (hm : 0 ≤ m) : ((ordL ns m xs t).length : Int) = m := by
  rw [(ordL_perm hm).length_eq, irange_len]; omega
def roundL (m : Int) (es : List (Int × Int)) (xs ord : List Int) : List Int := ord.foldl (mended m es) xs
theorem roundL_len {m : Int} {es : List (Int × Int)} : ∀ {ord xs : List Int}, (roundL m es xs ord).length = xs.length
  | [], xs => rfl
  | h :: ord, xs => by
    have := roundL_len (m := m) (es := es) (ord := ord) (xs := mended m es xs h)
    show (roundL m es (mended m es xs h) ord).length = _
    rw [this]
    unfold mended
    rw [List.length_set]
theorem round_ok {m t : Int} {es : List (Int × Int)} {d : List Int} (N : Net m es) (hd : Nums m d) (rd : Right m es d) (t0 : 0 ≤ t) (t1 : t < m) : ∀ (l : List Int) (xs : List Int) (dn : Int → Prop), (∀ h ∈ l, 0 ≤ h ∧ h < m) → Nums m xs → (∀ k, 0 ≤ k → k < m → Ok d xs t k) → (∀ k, dn k → 0 ≤ k → k < m → Ok d xs (t + 1) k) →
    Nums m (roundL m es xs l) ∧ ∀ k, (dn k ∨ k ∈ l) → 0 ≤ k → k < m → Ok d (roundL m es xs l) (t + 1) k
  | [], xs, dn, _, hx, _, hq => ⟨hx, fun k hk k0 k1 => hq k (hk.elim id fun z => by cases z) k0 k1⟩
  | h :: l, xs, dn, hl, hx, ok, hq => by
    have hh := hl h List.mem_cons_self
    obtain ⟨_, o1⟩ := mend_ok N hd rd hx t0 t1 hh.1 hh.2 ok
    have hlx := hx.len
    have same : ∀ k, 0 ≤ k → k ≠ h → at_ (mended m es xs h) k = at_ xs k := fun k k0 z => by unfold mended; rw [at_set hh.1 (by omega) k0, if_neg z]
    have ih := round_ok N hd rd t0 t1 l (mended m es xs h) (fun k => dn k ∨ k = h) (fun a ha => hl a (List.mem_cons_of_mem _ ha)) (mended_nums N hx hh.1 hh.2) (fun k k0 k1 => ?_) (fun k hk k0 k1 => ?_)
    · refine ⟨ih.1, fun k hk k0 k1 => ih.2 k ?_ k0 k1⟩
      rcases hk with z | z
      · exact .inl (.inl z)
      · rcases List.mem_cons.mp z with e | e
        · exact .inl (.inr e)
        · exact .inr e
    · by_cases z : k = h
      · subst z; exact o1.weak
      · unfold Ok; rw [same k k0 z]; exact ok k k0 k1
    · by_cases z : k = h
      · subst z; exact o1
      · rcases hk with q | q
        · unfold Ok; rw [same k k0 z]; exact hq k q k0 k1
        · exact absurd q z
/-- the numbers behind t rounds -/
def rounds (ns : List Int) (m : Int) (es : List (Int × Int)) (xs : List Int) : Nat → List Int
  | 0 => xs
  | t + 1 => roundL m es (rounds ns m es xs t) (ordL ns m (rounds ns m es xs t) t)
theorem rounds_ok {ns : List Int} {m : Int} {es : List (Int × Int)} {d xs : List Int} (N : Net m es) (hd : Nums m d) (rd : Right m es d) (hx : Nums m xs) : ∀ t : Nat, (t : Int) ≤ m → Nums m (rounds ns m es xs t) ∧ ∀ k, 0 ≤ k → k < m → Ok d (rounds ns m es xs t) t k
  | 0, _ => ⟨hx, fun k k0 k1 => ⟨fun q => by have := hd.val k k0 k1; omega, fun _ => by have := hx.val k k0 k1; exact this.1⟩⟩
  | t + 1, ht => by
    have hm := N.lo
    obtain ⟨h1, h2⟩ := rounds_ok (ns := ns) N hd rd hx t (by omega)
    have r := round_ok N hd rd (t := (t : Int)) (by omega) (by omega) (ordL ns m (rounds ns m es xs t) t) (rounds ns m es xs t) (fun _ => False) (fun h hh => (ordL_mem (by omega)).mp hh) h1 h2 (fun _ z => z.elim)
    refine ⟨r.1, fun k k0 k1 => ?_⟩
    have := r.2 k (.inr ((ordL_mem (by omega)).mpr ⟨k0, k1⟩)) k0 k1
    have e : ((t + 1 : Nat) : Int) = (t : Int) + 1 := by omega
    rw [e]
    exact this
theorem rounds_end {ns : List Int} {m : Int} {es : List (Int × Int)} {d xs : List Int} (N : Net m es) (hd : Nums m d) (rd : Right m es d) (hx : Nums m xs) : rounds ns m es xs m.toNat = d := by
  have hm := N.lo
  obtain ⟨h1, h2⟩ := rounds_ok (ns := ns) N hd rd hx m.toNat (by omega)
  refine ext_at h1.len hd.len fun h h0 hh => ?_
  have o := h2 h h0 hh
  have e : ((m.toNat : Nat) : Int) = m := by omega
  rw [e] at o
  have v1 := h1.val h h0 hh
  have v2 := hd.val h h0 hh
  by_cases q : at_ d h < m
  · exact o.1 q
  · have := o.2 (by omega)
    omega
def F_round_far : List PyData → PyData → Prop := fun ds d => ∃ m es xs ord, ds = [nD m es, tI xs, tI ord] ∧ Net m es ∧ (xs.length : Int) = m ∧ (∀ h ∈ ord, 0 ≤ h ∧ h < m) ∧ d = tI (roundL m es xs ord)
def F__law_order : List PyData → PyData → Prop := fun ds d => ∃ ns m xs t, ds = [lI ns, .int m, tI xs, .int t] ∧ 0 ≤ m ∧ m ≤ 1000 ∧ (xs.length : Int) = m ∧ 0 ≤ t ∧ d = tI (ordL ns m xs t)
theorem L_round_far : ∀ ds d, F_round_far ds d → ds.length = 3 := fun _ _ ⟨_, _, _, _, e, _⟩ => by rw [e]; rfl
theorem L__law_order : ∀ ds d, F__law_order ds d → ds.length = 4 := fun _ _ ⟨_, _, _, _, e, _⟩ => by rw [e]; rfl
def F_law : List PyData → PyData → Prop := fun ds d => ∃ ns, ds = [lI ns] ∧ ns.length ≤ 63 ∧ (∀ z ∈ ns, Builtin.Int.intBits z ≤ 1048576) ∧ d = .bool true
theorem L_law : ∀ ds d, F_law ds d → ds.length = 1 := fun _ _ ⟨_, e, _⟩ => by rw [e]; rfl
section
variable {K : PySem.W.Frag} {r : Rho} {ta tb tc te : TE} {X : XK} {ns xs ord : List Int} {m t : Int} {es : List (Int × Int)}
theorem cv_round (h1 : EvD K ta r (nD m es)) (h2 : EvD K tb r (tI xs)) (h3 : EvD K tc r (tI ord)) (N : Net m es) (hl : (xs.length : Int) = m) (ho : ∀ h ∈ ord, 0 ≤ h ∧ h < m) : EvD K (tCall (spR K F_round_far) [] X (tCons ta (tCons tb (tCons tc tNil)))) r (tI (roundL m es xs ord)) :=
  ev_call (ea_cons h1 (ea_cons h2 (ea_cons h3 ea_nil))) ⟨m, es, xs, ord, rfl, N, hl, ho, rfl⟩
theorem cv_order (h1 : EvD K ta r (lI ns)) (h2 : EvD K tb r (.int m)) (h3 : EvD K tc r (tI xs)) (h4 : EvD K te r (.int t)) (m0 : 0 ≤ m) (m1 : m ≤ 1000) (hl : (xs.length : Int) = m) (t0 : 0 ≤ t) : EvD K (tCall (spR K F__law_order) [] X (tCons ta (tCons tb (tCons tc (tCons te tNil))))) r (tI (ordL ns m xs t)) :=
  ev_call (ea_cons h1 (ea_cons h2 (ea_cons h3 (ea_cons h4 ea_nil)))) ⟨ns, m, xs, t, rfl, m0, m1, hl, t0, rfl⟩
end
end Od

namespace Od
open PySem PySem.Spec PyProof.Rows L2
def top (i : Nat) : Stmt := PySem.Challenge.pw_oddreel_k06_whole_rounds_bring_distances.main.body.getD i (.Pass ⟨0, 0, 0, 0⟩)
theorem ql_eq : ("_law_order" : Str) ++ ".<locals>." ++ "<lambda>" = QL := by decide +kernel
section
variable {P : Program} {w : World} {K : PySem.W.Frag} {mg : Str → Option Value} {base : Heap} {C R : Addr}
abbrev s__law_mix : Stmt := top 10
theorem sc__law_mix : FnScope ["_law_cell_here", "_law_prime", "_law_many"] ["_law_cell_here", "_law_prime", "_law_many"] (defScope s__law_mix) := ⟨rfl, rfl, rfl, by decide +kernel, rfl, by decide +kernel, by decide +kernel⟩
theorem ok__law_mix {f : Addr} {fd : FuncData} (D : DefAt K mg "_law_mix" s__law_mix f fd) (T : Bt mg) : CalOk P w K mg base CX0 1 "_law_mix" ["_law_cell_here", "_law_prime", "_law_many"] (spR K F__law_mix) := by
  refine ⟨_, _, (D.F.ok sc__law_mix (fun vs H Q E h => spR_len h L__law_mix) (fun cdv A outer s H vs Q E hr h => ?_) : FnOk P w K mg base CX0 (0 + 1) f fd ["_law_cell_here", "_law_prime", "_law_many"] _), D.m, D.F.kp, D.F.binds (ps := ["_law_cell_here", "_law_prime", "_law_many"]) fun _ _ _ _ _ _ us hl => match us, hl with | [_, _, _], _ => rfl⟩
  refine ⟨_, (pss_one (ps_ret (pe_op op_mod (pe_op op_mod (pe_op op_mulB (pv 0) pe_int) (pv 1)) (pv 2)))), ?_⟩
  refine spR_body h (fun ds d H0 hF => ?_)
  obtain ⟨c, p, m, rfl, hp, hm, rfl⟩ := hF
  show WP K H0 _ [.im (.int c), .im (.int p), .im (.int m)] _
  exact wp_ret (ev_mod (ev_mod (ev_mul (ev_im rfl) ev_int (mulR (by decide) (by decide))) (ev_im rfl) hp) (ev_im rfl) hm) rfl

abbrev s__law_cell : Stmt := top 9
theorem sc__law_cell : FnScope ["_law_script", "_law_k"] ["_law_script", "_law_k"] (defScope s__law_cell) := ⟨rfl, rfl, rfl, by decide +kernel, rfl, by decide +kernel, by decide +kernel⟩
theorem ok__law_cell {f : Addr} {fd : FuncData} (D : DefAt K mg "_law_cell" s__law_cell f fd) (T : Bt mg) : CalOk P w K mg base CX0 1 "_law_cell" ["_law_script", "_law_k"] (spR K F__law_cell) := by
  refine ⟨_, _, (D.F.ok sc__law_cell (fun vs H Q E h => spR_len h L__law_cell) (fun cdv A outer s H vs Q E hr h => ?_) : FnOk P w K mg base CX0 (0 + 1) f fd ["_law_script", "_law_k"] _), D.m, D.F.kp, D.F.binds (ps := ["_law_script", "_law_k"]) fun _ _ _ _ _ _ us hl => match us, hl with | [_, _], _ => rfl⟩
  refine ⟨_, (pss_cons (ps_if (pt_cmpR op_lt (pv 1) (pe_callB (call_lenK (K := K) rfl) (by rfl) T.len_ boot_len (pa_cons (pv 0) pa_nil)) (nomark _))
        (pss_one (ps_ret (pe_ix (ix_listK (K := K) rfl) (pv 0) (pv 1) (fun _ _ => rfl))))
        pss_nil)
      (pss_one (ps_ret pe_int))), ?_⟩
  refine spR_body h (fun ds d H0 hF => ?_)
  obtain ⟨ns, k, rfl, h0, rfl⟩ := hF
  show WP K H0 _ [.im (lI ns), .im (.int k)] _
  refine wp_seq (wp_if (et_test (ev_lt (ev_im rfl) (ev_len (EvL.toQ (EvD.toL (ev_im rfl)))))) (fun hb => ?_) (fun hb => wp_next ?_))
  · have hk := of_decide_eq_true hb
    rw [List.length_map] at hk
    exact wp_ret (ev_ixL (EvD.toL (ev_im rfl)) (ev_im rfl) (at_nn h0 hk)) rfl
  · have hk := of_decide_eq_false hb
    rw [List.length_map] at hk
    refine wp_ret ev_int ?_
    show PyData.int 0 = PyData.int (cell ns k)
    unfold cell
    rw [List.getD_eq_getElem?_getD, List.getElem?_eq_none (by omega)]; rfl

abbrev s__law_net : Stmt := top 11
theorem sc__law_net : FnScope ["_law_script", "_law_many", "_law_share", "_law_edges", "_law_one", "_law_other"] ["_law_script"] (defScope s__law_net) := ⟨rfl, rfl, rfl, by decide +kernel, rfl, by decide +kernel, by decide +kernel⟩
theorem ok__law_net {f : Addr} {fd : FuncData} (D : DefAt K mg "_law_net" s__law_net f fd) (T : Bt mg) (c__law_mix : CalOk P w K mg base CX0 1 "_law_mix" ["_law_cell_here", "_law_prime", "_law_many"] (spR K F__law_mix)) (c__law_cell : CalOk P w K mg base CX0 1 "_law_cell" ["_law_script", "_law_k"] (spR K F__law_cell)) : CalOk P w K mg base CX0 2 "_law_net" ["_law_script"] (spR K F__law_net) := by
  refine ⟨_, _, (D.F.ok sc__law_net (fun vs H Q E h => spR_len h L__law_net) (fun cdv A outer s H vs Q E hr h => ?_) : FnOk P w K mg base CX0 (1 + 1) f fd ["_law_script"] _), D.m, D.F.kp, D.F.binds (ps := ["_law_script"]) fun _ _ _ _ _ _ us hl => match us, hl with | [_], _ => rfl⟩
  refine ⟨_, (pss_cons (ps_set (i := 1) sc__law_net.nd rfl (by first | exact Or.inl rfl | exact Or.inr rfl) (pe_op op_add pe_int (pe_callC c__law_mix (hr.mono (by decide)) rfl (pa_cons (pe_callC c__law_cell (hr.mono (by decide)) rfl (pa_cons (pv 0) (pa_cons pe_int pa_nil))) (pa_cons pe_int (pa_cons pe_int pa_nil))))))
      (pss_cons (ps_set (i := 2) sc__law_net.nd rfl (by first | exact Or.inl rfl | exact Or.inr rfl) (pe_callC c__law_mix (hr.mono (by decide)) rfl (pa_cons (pe_callC c__law_cell (hr.mono (by decide)) rfl (pa_cons (pv 0) (pa_cons pe_int pa_nil))) (pa_cons pe_int (pa_cons pe_int pa_nil)))))
      (pss_cons (ps_set (i := 3) sc__law_net.nd rfl (by first | exact Or.inl rfl | exact Or.inr rfl) (pe_lst pa_nil))
      (pss_cons (ps_for PassesOwn.never rfl (pi_range1 (by rfl) T.range_ (pa_cons (pv 1) pa_nil)) (pg_name (i := 4) sc__law_net.nd rfl (by first | exact Or.inl rfl | exact Or.inr rfl))
        (pss_one (ps_for PassesOwn.never rfl (pi_range2 (by rfl) T.range_ (pa_cons (pe_op op_add (pv 4) pe_int) (pa_cons (pv 1) pa_nil))) (pg_name (i := 5) sc__law_net.nd rfl (by first | exact Or.inl rfl | exact Or.inr rfl))
          (pss_one (ps_if (pt_cmpR op_lt (pe_callC c__law_mix (hr.mono (by decide)) rfl (pa_cons (pe_op op_add (pe_op op_add (pe_callC c__law_cell (hr.mono (by decide)) rfl (pa_cons (pv 0) (pa_cons pe_int pa_nil))) (pe_op op_mulB pe_int (pv 4))) (pe_op op_mulB pe_int (pv 5))) (pa_cons pe_int (pa_cons pe_int pa_nil)))) (pv 2) (nomark _))
            (pss_one (ps_expr (pe_bm PySem.F.plainAttrs_list PySem.F.slot_list_append PySem.F.type_list_append mt_append (pv 3) (pa_cons (pe_tup (pa_cons (pv 4) (pa_cons (pv 5) pa_nil))) pa_nil))))
            pss_nil)))))
      (pss_one (ps_ret (pe_tup (pa_cons (pv 1) (pa_cons (pe_callTy (call_tupleK (K := K) rfl) (by rfl) T.tuple_ boot_tuple (pa_cons (pv 3) pa_nil)) pa_nil))))))))), ?_⟩
  refine spR_body h (fun ds d H0 hF => ?_)
  obtain ⟨ns, rfl, rfl⟩ := hF
  have hm := nmany_b ns
  show WP K H0 _ [.im (lI ns), .no, .no, .no, .no, .no] _
  refine wp_seq (wp_set (d := .int (nmany ns)) (ev_is (ev_add ev_int (cv_mix (cv_cell (ev_im rfl) ev_int (by decide)) ev_int ev_int (by decide) (by decide))) rfl) ?_)
  refine wp_seq (wp_set (d := .int (nshare ns)) (ev_is (cv_mix (cv_cell (ev_im rfl) ev_int (by decide)) ev_int ev_int (by decide) (by decide)) rfl) ?_)
  refine wp_seq (wp_setN (ev_lst ea_nil (szI (by show (0 : Nat) ≤ 100000; decide))) ?_)
  refine wp_seq (wp_for (ei_rng1 (j := nmany ns) (ea_cons (ev_im rfl) ea_nil) (by omega) (by omega))
    (fun i r => ∃ a4 a5, r = [.im (lI ns), .im (.int (nmany ns)), .im (.int (nshare ns)), .ow (((irange 0 i).flatMap (nrow ns)).map eD), a4, a5]) ⟨.no, .no, rfl⟩ ?_ ?_)
  · rintro i d _ hi ⟨a4, a5, rfl⟩
    obtain ⟨a, ha, rfl, hlt⟩ := map_get hi
    rw [irange_len] at hlt
    rw [irange_get hlt] at ha
    have ea : 0 + (i : Int) = a := Option.some.inj ha
    have hlen : ((irange 0 i).flatMap (nrow ns)).length ≤ 64 := by
      have := flat_len (f := nrow ns) (k := 8) (l := irange 0 i) fun a ha => nrow_len ns (by have := irange_mem.mp ha; omega)
      rw [irange_len] at this
      omega
    refine ⟨_, gs_name, ?_⟩
    refine wp_for (ei_rng2 (i := a + 1) (j := nmany ns) (ea_cons (ev_add (ev_im rfl) ev_int) (ea_cons (ev_im rfl) ea_nil)) (by omega) (by omega) (by omega) (by omega))
      (fun j r => ∃ a5, r = [.im (lI ns), .im (.int (nmany ns)), .im (.int (nshare ns)), .ow (((irange 0 i).flatMap (nrow ns) ++ ((irange (a + 1) j).filter (npick ns a)).map fun b => (a, b)).map eD), .im (.int a), a5]) ⟨a5, ?_⟩ ?_ ?_
    · show _ = [_, _, _, Sl.ow (((irange 0 i).flatMap (nrow ns) ++ []).map eD), _, _]
      rw [List.append_nil]; rfl
    · rintro j d2 _ hj ⟨b5, rfl⟩
      obtain ⟨b, hb, rfl, hlt2⟩ := map_get hj
      rw [irange_len] at hlt2
      rw [irange_get hlt2] at hb
      have eb : a + 1 + (j : Int) = b := Option.some.inj hb
      refine ⟨_, gs_name, ?_⟩
      refine wp_if (b := npick ns a b) (et_test (ev_is (ev_lt (cv_mix (ev_add (ev_add (cv_cell (ev_im rfl) ev_int (by decide)) (ev_mul ev_int (ev_im rfl) (mulL (by decide) (by decide)))) (ev_mul ev_int (ev_im rfl) (mulL (by decide) (by decide)))) ev_int ev_int (by decide) (by decide)) (ev_im rfl)) rfl)) (fun hb => ?_) (fun hb => wp_next ⟨.im (.int b), ?_⟩)
      · refine wp_append rfl (ev_tup (ea_cons (ev_im rfl) (ea_cons (ev_im rfl) ea_nil)) (szI (by show (2 : Nat) ≤ 100000; decide))) (szlt ?_) ⟨.im (.int b), ?_⟩
        · have h2 := List.length_filter_le (npick ns a) (irange (a + 1) j)
          rw [irange_len] at h2
          rw [List.length_map, List.length_append, List.length_map]
          omega
        · rw [irange_succ', eb, List.filter_append, List.filter_cons_of_pos hb, List.filter_nil, List.map_append, List.map_append, List.map_append, List.map_append, List.append_assoc]; rfl
      · rw [irange_succ', eb, List.filter_append, List.filter_cons_of_neg (by rw [hb]; exact Bool.false_ne_true), List.filter_nil, List.append_nil]; rfl
    · rintro _ ⟨b5, rfl⟩
      refine ⟨.im (.int a), b5, ?_⟩
      rw [List.length_map, irange_len, irange_succ', ea, List.flatMap_append, List.flatMap_cons, List.flatMap_nil, List.append_nil]; rfl
  · rintro _ ⟨a4, a5, rfl⟩
    rw [List.length_map, irange_len]
    exact wp_ret (ev_tup (ea_cons (ev_im rfl) (ea_cons (ev_tupleL (EvM.toL (ev_ow rfl))) ea_nil)) (szI (by show (2 : Nat) ≤ 100000; decide))) rfl

abbrev s__law_far : Stmt := top 13
theorem sc__law_far : FnScope ["_law_net_here", "_law_found", "_law_k", "_law_turn", "_law_a", "_law_b"] ["_law_net_here"] (defScope s__law_far) := ⟨rfl, rfl, rfl, by decide +kernel, rfl, by decide +kernel, by decide +kernel⟩
theorem ok__law_far {f : Addr} {fd : FuncData} (D : DefAt K mg "_law_far" s__law_far f fd) (T : Bt mg) : CalOk P w K mg base CX0 1 "_law_far" ["_law_net_here"] (spR K F__law_far) := by
  refine ⟨_, _, (D.F.ok sc__law_far (fun vs H Q E h => spR_len h L__law_far) (fun cdv A outer s H vs Q E hr h => ?_) : FnOk P w K mg base CX0 (0 + 1) f fd ["_law_net_here"] _), D.m, D.F.kp, D.F.binds (ps := ["_law_net_here"]) fun _ _ _ _ _ _ us hl => match us, hl with | [_], _ => rfl⟩
  refine ⟨_, (pss_cons (ps_set (i := 1) sc__law_far.nd rfl (by first | exact Or.inl rfl | exact Or.inr rfl) (pe_op op_cat (pe_lst (pa_cons pe_int pa_nil)) (pe_lc (own := [("_law_k", 2)]) (g := (gName 2)) (tt := tYes) rfl sc__law_far.nd (pi_range1 (by rfl) T.range_ (pa_cons (pe_op op_sub (pe_ix (ix_tupK (K := K) rfl) (pv 0) pe_int (fun _ _ => rfl)) pe_int) pa_nil)) (blkOk_by (own := [("_law_k", 2)]) (N := ["_law_net_here", "_law_found", "_law_k", "_law_turn", "_law_a", "_law_b"]) (sc := defScope s__law_far) (by decide +kernel)) (fun _ _ _ _ _ => (pg_name (i := 2) sc__law_far.nd rfl (by first | exact Or.inl rfl | exact Or.inr rfl))) (fun _ _ _ _ _ => pts_nil) (fun _ _ _ _ _ => (pe_ix (ix_tupK (K := K) rfl) (pv 0) pe_int (fun _ _ => rfl))))))
      (pss_cons (ps_for PassesOwn.never rfl (pi_range1 (by rfl) T.range_ (pa_cons (pe_ix (ix_tupK (K := K) rfl) (pv 0) pe_int (fun _ _ => rfl)) pa_nil)) (pg_name (i := 3) sc__law_far.nd rfl (by first | exact Or.inl rfl | exact Or.inr rfl))
        (pss_one (ps_for PassesOwn.never rfl (pi_tup (pe_ix (ix_tupK (K := K) rfl) (pv 0) pe_int (fun _ _ => rfl))) (pg_tup rfl (pgs_cons (pg_name (i := 4) sc__law_far.nd rfl (by first | exact Or.inl rfl | exact Or.inr rfl)) (pgs_cons (pg_name (i := 5) sc__law_far.nd rfl (by first | exact Or.inl rfl | exact Or.inr rfl)) pgs_nil)))
          (pss_cons (ps_asg (pe_callB (call_min2 rfl) (by rfl) T.min_ boot_min (pa_cons (pe_ix (ix_listK (K := K) rfl) (pv 1) (pv 4) (fun _ _ => rfl)) (pa_cons (pe_op op_add (pe_ix (ix_listK (K := K) rfl) (pv 1) (pv 5) (fun _ _ => rfl)) pe_int) pa_nil))) (pg_sub (pv 1) (pv 4) set_list))
          (pss_one (ps_asg (pe_callB (call_min2 rfl) (by rfl) T.min_ boot_min (pa_cons (pe_ix (ix_listK (K := K) rfl) (pv 1) (pv 5) (fun _ _ => rfl)) (pa_cons (pe_op op_add (pe_ix (ix_listK (K := K) rfl) (pv 1) (pv 4) (fun _ _ => rfl)) pe_int) pa_nil))) (pg_sub (pv 1) (pv 5) set_list)))))))
      (pss_one (ps_ret (pe_callTy (call_tupleK (K := K) rfl) (by rfl) T.tuple_ boot_tuple (pa_cons (pv 1) pa_nil)))))), ?_⟩
  refine spR_body h (fun ds d H0 hF => ?_)
  obtain ⟨m, es, rfl, N, rfl⟩ := hF
  have hml := N.lo
  have hmh := N.hi
  have hln := N.ln
  have dn := dist_nums (m := m) (es := es) (by omega)
  have dr := dist_right N
  have v0l : ((0 : Int) :: List.replicate (m - 1).toNat m).length = m.toNat := by rw [List.length_cons, List.length_replicate]; omega
  have B0 : Bf m es (0 :: List.replicate (m - 1).toNat m) := by
    have e : ∀ h, 0 ≤ h → h < m → at_ (0 :: List.replicate (m - 1).toNat m) h = if h = 0 then 0 else m := fun h h0 h1 => by
      by_cases z : h = 0
      · subst z; rfl
      · rw [if_neg z]
        unfold at_
        rw [show h.toNat = (h.toNat - 1) + 1 by omega, List.getD_cons_succ, List.getD_eq_getElem?_getD, List.getElem?_replicate, if_pos (by omega)]; rfl
    refine ⟨by rw [v0l]; omega, rfl, fun h h0 h1 => ?_, fun h h0 h1 => ?_⟩
    · rw [e h h0 h1]
      have := dn.val h h0 h1
      have r := dr h h0 h1
      unfold right at r
      split
      · rename_i z
        rw [if_pos z] at r; omega
      · omega
    · rw [e h h0 h1]
      split <;> omega
  show WP K H0 _ [.im (nD m es), .no, .no, .no, .no, .no] _
  refine wp_seq (wp_setN (ds := (0 :: List.replicate (m - 1).toNat m).map .int) (ev_is2 (ev_catL (EvN.toM (ev_lst (ea_cons ev_int ea_nil) (szI (by show (1 : Nat) ≤ 100000; decide)))) (EvN.toM (ev_lcM (ei_rng1 (j := m - 1) (ea_cons (ev_sub (ev_n0 (ev_im rfl)) ev_int) ea_nil) (by omega) (by omega)) (irange 0 (m - 1).toNat) PyData.int (fun _ => .int m) rfl (szI (by rw [irange_len]; omega)) (fun k hk => ⟨_, gc_name (by decide), ev_n0 (ev_im rfl)⟩))) (szI ?_)) ?_) ?_)
  · rw [List.length_map, irange_len]
    show 1 + _ ≤ _
    omega
  · rw [List.map_const', irange_len, List.map_cons, List.map_replicate]; rfl
  refine wp_seq (wp_for (ei_rng1 (j := m) (ea_cons (ev_n0 (ev_im rfl)) ea_nil) (by omega) (by omega))
    (fun i r => ∃ v a2 a3 a4 a5, r = [.im (nD m es), .ow (v.map .int), a2, a3, a4, a5] ∧ Bf m es v ∧ BfT m es (i : Int) v) ⟨_, _, _, _, _, rfl, B0, fun h h0 h1 _ ht => by have := dn.val h h0 h1; omega⟩ ?_ ?_)
  · rintro i d _ hi ⟨v, a2, a3, a4, a5, rfl, B, T⟩
    obtain ⟨t, ht, rfl, hlt⟩ := map_get hi
    rw [irange_len] at hlt
    refine ⟨_, gs_name, ?_⟩
    refine wp_for (ei_tup (ev_n1 (ev_im rfl))) (fun j r => ∃ v a2 a3 a4 a5, r = [.im (nD m es), .ow (v.map .int), a2, a3, a4, a5] ∧ Bf m es v ∧ BfT m es (i : Int) v ∧ ∀ p ∈ es.take j, BfE m es (i : Int) v p)
      ⟨v, _, _, _, _, rfl, B, T, fun p hp => by rw [List.take_zero] at hp; cases hp⟩ ?_ ?_
    · rintro j d2 _ hj ⟨v, a2, a3, a4, a5, rfl, B, T, E0⟩
      obtain ⟨p, hp, rfl, hlt2⟩ := map_get hj
      have hpe := List.mem_of_getElem? hp
      have hed := N.ed p hpe
      have hvl := B.len
      obtain ⟨B2, T2, le2, E2⟩ := bf_edge N B T (by omega) hpe
      refine ⟨_, gs_tup2, ?_⟩
      refine wp_seq (wp_setitem (j := p.1.toNat) rfl (ev_min2 (ev_ixL (EvM.toL (ev_ow rfl)) (ev_im rfl) (at_nn hed.1 (by omega))) (ev_add (ev_ixL (EvM.toL (ev_ow rfl)) (ev_im rfl) (at_nn (by omega) (by omega))) ev_int)) (ev_im rfl) (by rw [List.length_map]; exact ixN_nn hed.1 (by omega)) ?_)
      have e1 := relax_map (v := v) (a := p.1) (b := p.2)
      have l1 : ((relax v p.1 p.2).length : Int) = m := by unfold relax; rw [List.length_set]; exact hvl
      refine wp_is (r' := [.im (nD m es), .ow ((relax v p.1 p.2).map .int), a2, a3, .im (.int p.1), .im (.int p.2)]) ?_ (by rw [← e1]; rfl)
      refine wp_setitem (j := p.2.toNat) rfl (ev_min2 (ev_ixL (EvM.toL (ev_ow rfl)) (ev_im rfl) (at_nn (by omega) (by omega))) (ev_add (ev_ixL (EvM.toL (ev_ow rfl)) (ev_im rfl) (at_nn (by omega) (by omega))) ev_int)) (ev_im rfl) (by rw [List.length_map]; exact ixN_nn (by omega) (by omega)) ⟨relax (relax v p.1 p.2) p.2 p.1, a2, a3, .im (.int p.1), .im (.int p.2), ?_, B2, T2, fun q hq => ?_⟩
      · have e2 := relax_map (v := relax v p.1 p.2) (a := p.2) (b := p.1)
        rw [← e2]; rfl
      · rw [List.take_add_one, hp] at hq
        rcases List.mem_append.mp hq with z | z
        · have := E0 q z
          have hq2 := N.ed q (List.mem_of_mem_take z)
          have h1 := le2 q.1 (by omega) (by omega)
          have h2 := le2 q.2 (by omega) (by omega)
          exact ⟨fun y => Int.le_trans h2 (this.1 y), fun y => Int.le_trans h1 (this.2 y)⟩
        · rw [List.mem_singleton.mp z]; exact E2
    · rintro _ ⟨v, a2, a3, a4, a5, rfl, B, T, E0⟩
      rw [List.length_map, List.take_length] at E0
      exact ⟨v, _, _, _, _, rfl, B, by have := bf_round N B T (by omega) E0; exact this⟩
  · rintro _ ⟨v, a2, a3, a4, a5, rfl, B, T⟩
    rw [List.length_map, irange_len, show ((m.toNat : Nat) : Int) = m by omega] at T
    rw [bf_fin N B T]
    exact wp_ret (ev_tupleL (EvM.toL (ev_ow rfl))) rfl

abbrev s_put : Stmt := top 2
theorem sc_put : FnScope ["things", "at", "thing"] ["things", "at", "thing"] (defScope s_put) := ⟨rfl, rfl, rfl, by decide +kernel, rfl, by decide +kernel, by decide +kernel⟩
theorem ok_put {f : Addr} {fd : FuncData} (D : DefAt K mg "put" s_put f fd) (T : Bt mg) : CalOk P w K mg base CX0 1 "put" ["things", "at", "thing"] (spR K F_put) := by
  refine ⟨_, _, (D.F.ok sc_put (fun vs H Q E h => spR_len h L_put) (fun cdv A outer s H vs Q E hr h => ?_) : FnOk P w K mg base CX0 (0 + 1) f fd ["things", "at", "thing"] _), D.m, D.F.kp, D.F.binds (ps := ["things", "at", "thing"]) fun _ _ _ _ _ _ us hl => match us, hl with | [_, _, _], _ => rfl⟩
  refine ⟨_, (pss_one (ps_ret (pe_op (op_catK (K := K) rfl) (pe_op (op_catK (K := K) rfl) (pe_slice (sl_tupK (K := K) rfl) (pv 0) po_none (po_some (pv 1))) (pe_tup (pa_cons (pv 2) pa_nil))) (pe_slice (sl_tupK (K := K) rfl) (pv 0) (po_some (pe_op op_add (pv 1) pe_int)) po_none)))), ?_⟩
  refine spR_body h (fun ds d H0 hF => ?_)
  obtain ⟨xs, k, v, rfl, h0, h1, hl, rfl⟩ := hF
  show WP K H0 _ [.im (tI xs), .im (.int k), .im (.int v)] _
  refine wp_ret (ev_catT (ev_catT (ev_slT (ev_im rfl) eo_none (eo_some (ev_im rfl))) (ev_tup (ea_cons (ev_im rfl) ea_nil) (szI (by show (1 : Nat) ≤ 100000; decide))) ?_) (ev_slT (ev_im rfl) (eo_some (ev_add (ev_im rfl) ev_int)) eo_none) ?_) ?_
  · exact szI (by have := cutD_len (xs.map PyData.int) none (some k); rw [List.length_map] at this; show _ + 1 ≤ _; omega)
  · exact szI (by have h1 := cutD_len (xs.map PyData.int) none (some k); have h2 := cutD_len (xs.map PyData.int) (some (k + 1)) none; rw [List.length_map] at h1 h2; rw [List.length_append]; show _ + 1 + _ ≤ _; omega)
  · show PyData.tuple _ = PyData.tuple _
    have e : k = ((k.toNat : Nat) : Int) := by omega
    have q := put_eq (xs := xs.map PyData.int) (k := k.toNat) (d := .int v) (by rw [List.length_map]; omega)
    rw [← e] at q
    rw [q, List.map_set]

abbrev s_neighbours : Stmt := top 1
theorem sc_neighbours : FnScope ["net", "hand", "found", "one", "other"] ["net", "hand"] (defScope s_neighbours) := ⟨rfl, rfl, rfl, by decide +kernel, rfl, by decide +kernel, by decide +kernel⟩
theorem ok_neighbours {f : Addr} {fd : FuncData} (D : DefAt K mg "neighbours" s_neighbours f fd) (T : Bt mg) : CalOk P w K mg base CX0 1 "neighbours" ["net", "hand"] (spR K F_neighbours) := by
  refine ⟨_, _, (D.F.ok sc_neighbours (fun vs H Q E h => spR_len h L_neighbours) (fun cdv A outer s H vs Q E hr h => ?_) : FnOk P w K mg base CX0 (0 + 1) f fd ["net", "hand"] _), D.m, D.F.kp, D.F.binds (ps := ["net", "hand"]) fun _ _ _ _ _ _ us hl => match us, hl with | [_, _], _ => rfl⟩
  refine ⟨_, (pss_cons (ps_set (i := 2) sc_neighbours.nd rfl (by first | exact Or.inl rfl | exact Or.inr rfl) (pe_lst pa_nil))
      (pss_cons (ps_for PassesOwn.never rfl (pi_tup (pe_ix (ix_tupK (K := K) rfl) (pv 0) pe_int (fun _ _ => rfl))) (pg_tup rfl (pgs_cons (pg_name (i := 3) sc_neighbours.nd rfl (by first | exact Or.inl rfl | exact Or.inr rfl)) (pgs_cons (pg_name (i := 4) sc_neighbours.nd rfl (by first | exact Or.inl rfl | exact Or.inr rfl)) pgs_nil)))
        (pss_cons (ps_if (pt_cmpR (op_eqK (K := K) rfl hr.units) (pv 3) (pv 1) (nomark _))
          (pss_one (ps_expr (pe_bm PySem.F.plainAttrs_list PySem.F.slot_list_append PySem.F.type_list_append mt_append (pv 2) (pa_cons (pv 4) pa_nil))))
          pss_nil)
        (pss_one (ps_if (pt_cmpR (op_eqK (K := K) rfl hr.units) (pv 4) (pv 1) (nomark _))
          (pss_one (ps_expr (pe_bm PySem.F.plainAttrs_list PySem.F.slot_list_append PySem.F.type_list_append mt_append (pv 2) (pa_cons (pv 3) pa_nil))))
          pss_nil))))
      (pss_one (ps_ret (pe_callTy (call_tupleK (K := K) rfl) (by rfl) T.tuple_ boot_tuple (pa_cons (pe_callB (cr_sortedK (K := K) rfl) (by rfl) T.sorted_ boot_sorted (pa_cons (pv 2) pa_nil)) pa_nil)))))), ?_⟩
  refine spR_body h (fun ds d H0 hF => ?_)
  obtain ⟨m, es, hh, rfl, hl, rfl⟩ := hF
  show WP K H0 _ [.im (nD m es), .im (.int hh), .no, .no, .no] _
  refine wp_seq (wp_setN (ev_lst ea_nil (szI (by show (0 : Nat) ≤ 100000; decide))) ?_)
  refine wp_seq (wp_for (ei_tup (ev_n1 (ev_im rfl))) (fun i r => ∃ a3 a4, r = [.im (nD m es), .im (.int hh), .ow ((nbr (es.take i) hh).map PyData.int), a3, a4]) ⟨.no, .no, rfl⟩ ?_ ?_)
  · rintro i d _ hi ⟨a3, a4, rfl⟩
    obtain ⟨p, hp, rfl, hlt⟩ := map_get hi
    have hln : (nbr (es.take i) hh).length ≤ 2000 := by
      have h1 := nbr_len (es := es.take i) (h := hh)
      rw [List.length_take] at h1
      omega
    refine ⟨_, gs_tup2, ?_⟩
    refine wp_seq (wp_join [.im (nD m es), .im (.int hh), .ow ((nbr (es.take i) hh ++ (if p.1 = hh then [p.2] else [])).map PyData.int), .im (.int p.1), .im (.int p.2)] (et_test (ev_eqI (ev_im rfl) (ev_im rfl))) (fun hb => wp_append rfl (ev_im rfl) (szlt (by rw [List.length_map]; omega)) ?_) (fun hb => wp_next ?_) ?_)
    · rw [if_pos (of_decide_eq_true hb), List.map_append]; rfl
    · rw [if_neg (of_decide_eq_false hb), List.append_nil]; rfl
    refine wp_join [.im (nD m es), .im (.int hh), .ow ((nbr (es.take (i + 1)) hh).map PyData.int), .im (.int p.1), .im (.int p.2)] (et_test (ev_eqI (ev_im rfl) (ev_im rfl))) (fun hb => wp_append rfl (ev_im rfl) (szlt ?_) ?_) (fun hb => wp_next ?_) ⟨_, _, rfl⟩
    · rw [List.length_map, List.length_append]
      split
      · show _ + 1 < _; omega
      · show _ + 0 < _; omega
    · rw [nbr_take hp]
      unfold nbe
      rw [if_pos (show p.2 = hh from of_decide_eq_true hb), ← List.append_assoc, List.map_append (l₂ := [p.1])]; rfl
    · rw [nbr_take hp]
      unfold nbe
      rw [if_neg (show ¬ p.2 = hh from of_decide_eq_false hb), List.append_nil]
  · rintro _ ⟨a3, a4, rfl⟩
    rw [List.length_map, List.take_length]
    exact wp_ret (ev_tupleL (EvM.toL (EvN.toM (ev_sorted (EvM.toL (ev_ow rfl)))))) rfl

abbrev s_right_number : Stmt := top 4
theorem sc_right_number : FnScope ["net", "numbers", "hand", "one"] ["net", "numbers", "hand"] (defScope s_right_number) := ⟨rfl, rfl, rfl, by decide +kernel, rfl, by decide +kernel, by decide +kernel⟩
theorem ok_right_number {f : Addr} {fd : FuncData} (D : DefAt K mg "right_number" s_right_number f fd) (T : Bt mg) (c_neighbours : CalOk P w K mg base CX0 1 "neighbours" ["net", "hand"] (spR K F_neighbours)) : CalOk P w K mg base CX0 2 "right_number" ["net", "numbers", "hand"] (spR K F_right_number) := by
  refine ⟨_, _, (D.F.ok sc_right_number (fun vs H Q E h => spR_len h L_right_number) (fun cdv A outer s H vs Q E hr h => ?_) : FnOk P w K mg base CX0 (1 + 1) f fd ["net", "numbers", "hand"] _), D.m, D.F.kp, D.F.binds (ps := ["net", "numbers", "hand"]) fun _ _ _ _ _ _ us hl => match us, hl with | [_, _, _], _ => rfl⟩
  refine ⟨_, (pss_cons (ps_if (pt_cmpR (op_eqK (K := K) rfl hr.units) (pv 2) pe_int (nomark _))
        (pss_one (ps_ret pe_int))
        pss_nil)
      (pss_one (ps_ret (pe_callB (cr_minK (K := K) rfl rfl) (by rfl) T.min_ boot_min (pa_cons (pe_op op_cat (pe_lst (pa_cons (pe_ix (ix_tupK (K := K) rfl) (pv 0) pe_int (fun _ _ => rfl)) pa_nil)) (pe_lc (own := [("one", 3)]) (g := (gName 3)) (tt := tYes) rfl sc_right_number.nd (pi_tup (pe_callC c_neighbours (hr.mono (by decide)) rfl (pa_cons (pv 0) (pa_cons (pv 2) pa_nil)))) (blkOk_by (own := [("one", 3)]) (N := ["net", "numbers", "hand", "one"]) (sc := defScope s_right_number) (by decide +kernel)) (fun _ _ _ _ _ => (pg_name (i := 3) sc_right_number.nd rfl (by first | exact Or.inl rfl | exact Or.inr rfl))) (fun _ _ _ _ _ => pts_nil) (fun _ _ _ _ _ => (pe_op op_add pe_int (pe_ix (ix_tupK (K := K) rfl) (pv 1) (pv 3) (fun _ _ => rfl)))))) pa_nil))))), ?_⟩
  refine spR_body h (fun ds d H0 hF => ?_)
  obtain ⟨m, es, xs, hh, rfl, N, hl, rfl⟩ := hF
  have hml := N.lo
  have hmh := N.hi
  show WP K H0 _ [.im (nD m es), .im (tI xs), .im (.int hh), .no] _
  refine wp_seq (wp_if (et_test (ev_eqI (ev_im rfl) ev_int)) (fun hb => ?_) (fun hb => wp_next ?_))
  · refine wp_ret ev_int ?_
    show PyData.int 0 = PyData.int _
    unfold right
    rw [if_pos (of_decide_eq_true hb)]
  · have hb' := of_decide_eq_false hb
    refine wp_ret (d := .int (right m es xs hh)) (ev_min (ns := m :: (nb es hh).map fun x => 1 + at_ xs x) (EvM.toL (EvN.toM (ev_is2 (ev_catL (EvN.toM (ev_lst (ea_cons (ev_n0 (ev_im rfl)) ea_nil) (szI (by show (1 : Nat) ≤ 100000; decide))))
      (EvN.toM (ev_lcM (ei_tup (cv_nb (ev_im rfl) (ev_im rfl) N.ln)) (nb es hh) PyData.int (fun x => .int (1 + at_ xs x)) rfl (szI (by have := nb_len (es := es) (h := hh); have := N.ln; omega)) (fun x hx => ⟨_, gc_name (by decide), ?_⟩))) (szI ?_)) ?_))) ?_ ?_) rfl
    · have nb1 := N.nb hx
      exact ev_add ev_int (ev_ixT (ev_im rfl) (ev_im rfl) (at_nn nb1.1 (by omega)))
    · rw [List.length_map]
      have := nb_len (es := es) (h := hh)
      have := N.ln
      show 1 + _ ≤ _
      omega
    · rw [List.map_cons, List.map_map]; rfl
    · unfold right
      rw [if_neg hb']
      rcases minL_mem (l := (nb es hh).map fun x => 1 + at_ xs x) (x := m) with q | q
      · rw [q]; exact List.mem_cons_self
      · exact List.mem_cons_of_mem _ q
    · intro y hy
      unfold right
      rw [if_neg hb']
      rcases List.mem_cons.mp hy with q | q
      · rw [q]; exact minL_le.1
      · exact minL_le.2 y q

abbrev s_mended_far : Stmt := top 6
theorem sc_mended_far : FnScope ["net", "numbers", "hand"] ["net", "numbers", "hand"] (defScope s_mended_far) := ⟨rfl, rfl, rfl, by decide +kernel, rfl, by decide +kernel, by decide +kernel⟩
theorem ok_mended_far {f : Addr} {fd : FuncData} (D : DefAt K mg "mended_far" s_mended_far f fd) (T : Bt mg) (c_put : CalOk P w K mg base CX0 1 "put" ["things", "at", "thing"] (spR K F_put)) (c_right_number : CalOk P w K mg base CX0 2 "right_number" ["net", "numbers", "hand"] (spR K F_right_number)) : CalOk P w K mg base CX0 3 "mended_far" ["net", "numbers", "hand"] (spR K F_mended_far) := by
  refine ⟨_, _, (D.F.ok sc_mended_far (fun vs H Q E h => spR_len h L_mended_far) (fun cdv A outer s H vs Q E hr h => ?_) : FnOk P w K mg base CX0 (2 + 1) f fd ["net", "numbers", "hand"] _), D.m, D.F.kp, D.F.binds (ps := ["net", "numbers", "hand"]) fun _ _ _ _ _ _ us hl => match us, hl with | [_, _, _], _ => rfl⟩
  refine ⟨_, (pss_one (ps_ret (pe_callC c_put (hr.mono (by decide)) rfl (pa_cons (pv 1) (pa_cons (pv 2) (pa_cons (pe_callC c_right_number (hr.mono (by decide)) rfl (pa_cons (pv 0) (pa_cons (pv 1) (pa_cons (pv 2) pa_nil)))) pa_nil)))))), ?_⟩
  refine spR_body h (fun ds d H0 hF => ?_)
  obtain ⟨m, es, xs, hh, rfl, N, hl, h0, h1, rfl⟩ := hF
  have hmh := N.hi
  show WP K H0 _ [.im (nD m es), .im (tI xs), .im (.int hh)] _
  exact wp_ret (cv_put (ev_im rfl) (ev_im rfl) (cv_right (ev_im rfl) (ev_im rfl) (ev_im rfl) N hl) h0 (by omega) (by omega)) rfl

abbrev s_round_far : Stmt := top 7
theorem sc_round_far : FnScope ["net", "numbers", "order", "hand"] ["net", "numbers", "order"] (defScope s_round_far) := ⟨rfl, rfl, rfl, by decide +kernel, rfl, by decide +kernel, by decide +kernel⟩
theorem ok_round_far {f : Addr} {fd : FuncData} (D : DefAt K mg "round_far" s_round_far f fd) (T : Bt mg) (c_mended_far : CalOk P w K mg base CX0 3 "mended_far" ["net", "numbers", "hand"] (spR K F_mended_far)) : CalOk P w K mg base CX0 4 "round_far" ["net", "numbers", "order"] (spR K F_round_far) := by
  refine ⟨_, _, (D.F.ok sc_round_far (fun vs H Q E h => spR_len h L_round_far) (fun cdv A outer s H vs Q E hr h => ?_) : FnOk P w K mg base CX0 (3 + 1) f fd ["net", "numbers", "order"] _), D.m, D.F.kp, D.F.binds (ps := ["net", "numbers", "order"]) fun _ _ _ _ _ _ us hl => match us, hl with | [_, _, _], _ => rfl⟩
  refine ⟨_, (pss_cons (ps_for PassesOwn.never rfl (pi_tup (pv 2)) (pg_name (i := 3) sc_round_far.nd rfl (by first | exact Or.inl rfl | exact Or.inr rfl))
        (pss_one (ps_set (i := 1) sc_round_far.nd rfl (by first | exact Or.inl rfl | exact Or.inr rfl) (pe_callC c_mended_far (hr.mono (by decide)) rfl (pa_cons (pv 0) (pa_cons (pv 1) (pa_cons (pv 3) pa_nil)))))))
      (pss_one (ps_ret (pv 1)))), ?_⟩
  refine spR_body h (fun ds d H0 hF => ?_)
  obtain ⟨m, es, xs, ord, rfl, N, hl, ho, rfl⟩ := hF
  show WP K H0 _ [.im (nD m es), .im (tI xs), .im (tI ord), .no] _
  refine wp_seq (wp_for (ei_tup (ev_im rfl)) (fun i r => ∃ a, r = [.im (nD m es), .im (tI (roundL m es xs (ord.take i))), .im (tI ord), a]) ⟨_, rfl⟩ ?_ ?_)
  · rintro i d _ hi ⟨a, rfl⟩
    obtain ⟨h, hh, rfl, hlt⟩ := map_get hi
    have hr := ho h (List.mem_of_getElem? hh)
    refine ⟨_, gs_name, ?_⟩
    refine wp_set (cv_mended (ev_im rfl) (ev_im rfl) (ev_im rfl) N (by rw [roundL_len]; exact hl) hr.1 hr.2) ⟨.im (.int h), ?_⟩
    show [_, Sl.im (tI (mended m es (roundL m es xs (ord.take i)) h)), _, _] = _
    rw [List.take_add_one, hh]
    unfold roundL
    rw [List.foldl_append]; rfl
  · rintro _ ⟨a, rfl⟩
    rw [List.length_map, List.take_length]
    exact wp_ret (ev_im rfl) rfl

abbrev s__law_perm : Stmt := top 12
theorem sc__law_perm : FnScope ["_law_cell_here", "_law_many", "_law_left", "_law_k"] ["_law_cell_here", "_law_many"] (defScope s__law_perm) := ⟨rfl, rfl, rfl, by decide +kernel, rfl, by decide +kernel, by decide +kernel⟩
theorem ok__law_perm {f : Addr} {fd : FuncData} (D : DefAt K mg "_law_perm" s__law_perm f fd) (T : Bt mg) (c__law_mix : CalOk P w K mg base CX0 1 "_law_mix" ["_law_cell_here", "_law_prime", "_law_many"] (spR K F__law_mix)) : CalOk P w K mg base CX0 2 "_law_perm" ["_law_cell_here", "_law_many"] (spR K F__law_perm) := by
  refine ⟨_, _, (D.F.ok sc__law_perm (fun vs H Q E h => spR_len h L__law_perm) (fun cdv A outer s H vs Q E hr h => ?_) : FnOk P w K mg base CX0 (1 + 1) f fd ["_law_cell_here", "_law_many"] _), D.m, D.F.kp, D.F.binds (ps := ["_law_cell_here", "_law_many"]) fun _ _ _ _ _ _ us hl => match us, hl with | [_, _], _ => rfl⟩
  refine ⟨_, (pss_cons (ps_set (i := 2) sc__law_perm.nd rfl (by first | exact Or.inl rfl | exact Or.inr rfl) (pe_listRg rfl (by rfl) T.list_ (prg_1 (by rfl) T.range_ (pv 1))))
      (pss_one (ps_ret (pe_callTy (call_tupleK (K := K) rfl) (by rfl) T.tuple_ boot_tuple (pa_cons (pe_lc (own := [("_law_k", 3)]) (g := (gName 3)) (tt := tYes) rfl sc__law_perm.nd (pi_range1 (by rfl) T.range_ (pa_cons (pv 1) pa_nil)) (blkOk_by (own := [("_law_k", 3)]) (N := ["_law_cell_here", "_law_many", "_law_left", "_law_k"]) (sc := defScope s__law_perm) (by decide +kernel)) (fun _ _ _ _ _ => (pg_name (i := 3) sc__law_perm.nd rfl (by first | exact Or.inl rfl | exact Or.inr rfl))) (fun _ _ _ _ _ => pts_nil) (fun _ _ _ _ _ => (pe_bmK (K := K) rfl PySem.F.plainAttrs_list PySem.F.slot_list_pop PySem.F.type_list_pop mt_popAt (pv 2) (pa_cons (pe_callC c__law_mix (hr.mono (by decide)) rfl (pa_cons (pe_op op_add (pv 0) (pe_op op_mulB pe_int (pv 3))) (pa_cons pe_int (pa_cons (pe_op op_sub (pv 1) (pv 3)) pa_nil)))) pa_nil)))) pa_nil))))), ?_⟩
  refine spR_body h (fun ds d H0 hF => ?_)
  obtain ⟨c, m, rfl, h0, h1, rfl⟩ := hF
  show WP K H0 _ [.im (.int c), .im (.int m), .no, .no] _
  refine wp_seq (wp_setN (ev_listRg (ev_im rfl) h0 (by omega)) ?_)
  refine wp_popRet (n := 2) (xs := (irange 0 m.toNat).map .int) (fun k => (pLeft c m k).map .int) (fun k => .int (pPop c m k)) (pIx c m) (fun k => ((pIx c m k : Nat) : Int)) rfl (by decide) (by decide) (ei_rng1 (j := m) (ea_cons (ev_im rfl) ea_nil) (by omega) (by omega)) (by rw [List.length_map, irange_len]; omega) (fun i d hd => ?_) ?_
  · obtain ⟨k, hk, rfl, hlt⟩ := map_get hd
    rw [irange_len] at hlt
    rw [irange_get hlt, Int.zero_add] at hk
    have ek : (i : Int) = k := Option.some.inj hk
    subst ek
    have hix := pIx_lt (c := c) (m := m) (k := i) (by omega)
    have hll := pLeft_len (c := c) (m := m) (k := i) (by omega)
    refine ⟨ev_is (cv_mix (ev_add (ev_im rfl) (ev_mul ev_int (ev_im rfl) (mulL (by decide) (by decide)))) ev_int (ev_sub (ev_im rfl) (ev_im rfl)) (by decide) (by omega)) ?_, by omega, by omega, ?_, ?_, ?_⟩
    · have := mix_lo (c := c + 5 * i) (p := 9941) (m := m - i) (by omega)
      show PyData.int _ = PyData.int _
      unfold pIx
      rw [Int.toNat_of_nonneg this]
    · rw [List.length_map]
      have := PyProof.Rows.seqIndex_at (i := ((pIx c m i : Nat) : Int)) (n := (pLeft c m i).length) (by omega) (by omega)
      rw [Int.toNat_natCast] at this
      exact this
    · rw [List.getElem?_map]
      unfold pPop
      rw [List.getD_eq_getElem?_getD, List.getElem?_eq_getElem (by omega)]; rfl
    · exact erase_map (f := PyData.int) (l := pLeft c m i) (i := pIx c m i)
  · show PyData.tuple _ = PyData.tuple _
    unfold permL
    rw [List.length_map, irange_len, List.map_map]; rfl

abbrev s__law_order : Stmt := top 14
theorem sc__law_order : FnScope ["_law_script", "_law_many", "_law_numbers", "_law_turn", "_law_cell_here"] ["_law_script", "_law_many", "_law_numbers", "_law_turn"] (defScope s__law_order) := ⟨rfl, rfl, rfl, by decide +kernel, rfl, by decide +kernel, by decide +kernel⟩
theorem ok__law_order {f : Addr} {fd : FuncData} (D : DefAt K mg "_law_order" s__law_order f fd) {cA : Addr} (hcA : fd.code = .ref cA) (TB : LamX.TabB base mg cA PL) (T : Bt mg) (c__law_cell : CalOk P w K mg base CX0 1 "_law_cell" ["_law_script", "_law_k"] (spR K F__law_cell)) (c__law_perm : CalOk P w K mg base CX0 2 "_law_perm" ["_law_cell_here", "_law_many"] (spR K F__law_perm)) : CalOk P w K mg base CX0 6 "_law_order" ["_law_script", "_law_many", "_law_numbers", "_law_turn"] (spR K F__law_order) := by
  refine ⟨_, _, (Fun_okC D.F hcA sc__law_order (fun vs H Q E h => spR_len h L__law_order) (fun A outer s H vs Q E hr h => ?_) : FnOk P w K mg base CX0 (5 + 1) f fd ["_law_script", "_law_many", "_law_numbers", "_law_turn"] _), D.m, D.F.kp, D.F.binds (ps := ["_law_script", "_law_many", "_law_numbers", "_law_turn"]) fun _ _ _ _ _ _ us hl => match us, hl with | [_, _, _, _], _ => rfl⟩
  refine ⟨_, (pss_cons (ps_set (i := 4) sc__law_order.nd rfl (by first | exact Or.inl rfl | exact Or.inr rfl) (pe_callC c__law_cell (hr.mono (by decide)) rfl (pa_cons (pv 0) (pa_cons (pe_op op_add pe_int (pv 3)) pa_nil))))
      (pss_cons (ps_if (pt_cmpR (op_eqK (K := K) rfl hr.units) (pe_op op_mod (pv 4) pe_int) pe_int (nomark _))
        (pss_one (ps_ret (pe_callTy (call_tupleK (K := K) rfl) (by rfl) T.tuple_ boot_tuple (pa_cons (pe_sortedL (K := K) (k := 0) (q := QL) (x := "_law_hand") rfl (by rfl) T.sorted_ (by rfl) T.range_ (pv 1) TB rfl ql_eq rfl (lam1_by (sc := defScope s__law_order) (by decide +kernel)) (show ("_law_hand" : Str) ∉ (["_law_script", "_law_many", "_law_numbers", "_law_turn", "_law_cell_here"] : List Str) from by decide +kernel) (hr.mono (by decide)) (fun A outer s H f c' hr => (pe_tup (pa_cons (pe_un un_neg (pe_ix (ix_tupK (K := K) rfl) (pv 2) (pv 5) (fun _ _ => rfl))) (pa_cons (pv 5) pa_nil))))) pa_nil))))
        pss_nil)
      (pss_cons (ps_if (pt_cmpR (op_eqK (K := K) rfl hr.units) (pe_op op_mod (pv 4) pe_int) pe_int (nomark _))
        (pss_one (ps_ret (pe_tupRv rfl (by rfl) T.tuple_ (by rfl) T.reversed_ (prg_1 (by rfl) T.range_ (pv 1)))))
        pss_nil)
      (pss_one (ps_ret (pe_callC c__law_perm (hr.mono (by decide)) rfl (pa_cons (pe_op op_fdiv (pv 4) pe_int) (pa_cons (pv 1) pa_nil)))))))), ?_⟩
  refine spR_body h (fun ds d H0 hF => ?_)
  obtain ⟨ns, m, xs, t, rfl, hm0, hm1, hl, ht, rfl⟩ := hF
  show WP K H0 _ [.im (lI ns), .im (.int m), .im (tI xs), .im (.int t), .no] _
  refine wp_seq (wp_set (cv_cell (ev_im rfl) (ev_add ev_int (ev_im rfl)) (by omega)) ?_)
  refine wp_seq (wp_if (et_test (ev_eqI (ev_mod (ev_im rfl) ev_int (by decide)) ev_int)) (fun hb => ?_) (fun hb => wp_next ?_))
  · refine wp_ret (ev_tupleL (EvM.toL (EvN.toM (ev_sortedL (fun h => (-(at_ xs h), h)) (ev_im rfl) hm0 (by omega) (fun h hh => ?_))))) ?_
    · have hh' := irange_mem.mp hh
      exact ev_tup (ea_cons (ev_neg (ev_ixT (ev_im rfl) (ev_im rfl) (at_nn (by omega) (by omega)))) (ea_cons (ev_im rfl) ea_nil)) (szI (by show (2 : Nat) ≤ 100000; decide))
    · unfold ordL
      rw [if_pos (of_decide_eq_true hb)]
  refine wp_seq (wp_if (et_test (ev_eqI (ev_mod (ev_im rfl) ev_int (by decide)) ev_int)) (fun hb2 => ?_) (fun hb2 => wp_next ?_))
  · refine wp_ret (ev_tupRv (ev_im rfl) hm0 hm1) ?_
    unfold ordL
    rw [if_neg (of_decide_eq_false hb), if_pos (of_decide_eq_true hb2)]
  · refine wp_ret (cv_perm (ev_div (ev_im rfl) ev_int ⟨by decide, by decide⟩) (ev_im rfl) hm0 hm1) ?_
    unfold ordL
    rw [if_neg (of_decide_eq_false hb), if_neg (of_decide_eq_false hb2)]

abbrev s_wrong_far : Stmt := top 5
theorem sc_wrong_far : FnScope ["net", "numbers", "hand"] ["net", "numbers"] (defScope s_wrong_far) := ⟨rfl, rfl, rfl, by decide +kernel, rfl, by decide +kernel, by decide +kernel⟩
theorem ok_wrong_far {f : Addr} {fd : FuncData} (D : DefAt K mg "wrong_far" s_wrong_far f fd) (T : Bt mg) (c_right_number : CalOk P w K mg base CX0 2 "right_number" ["net", "numbers", "hand"] (spR K F_right_number)) : CalOk P w K mg base CX0 3 "wrong_far" ["net", "numbers"] (spR K F_wrong_far) := by
  refine ⟨_, _, (D.F.ok sc_wrong_far (fun vs H Q E h => spR_len h L_wrong_far) (fun cdv A outer s H vs Q E hr h => ?_) : FnOk P w K mg base CX0 (2 + 1) f fd ["net", "numbers"] _), D.m, D.F.kp, D.F.binds (ps := ["net", "numbers"]) fun _ _ _ _ _ _ us hl => match us, hl with | [_, _], _ => rfl⟩
  refine ⟨_, (pss_one (ps_ret (pe_callTy (call_tupleK (K := K) rfl) (by rfl) T.tuple_ boot_tuple (pa_cons (pe_lc (own := [("hand", 2)]) (g := (gName 2)) rfl sc_wrong_far.nd (pi_range1 (by rfl) T.range_ (pa_cons (pe_ix (ix_tupK (K := K) rfl) (pv 0) pe_int (fun _ _ => rfl)) pa_nil)) (blkOk_by (own := [("hand", 2)]) (N := ["net", "numbers", "hand"]) (sc := defScope s_wrong_far) (by decide +kernel)) (fun _ _ _ _ _ => (pg_name (i := 2) sc_wrong_far.nd rfl (by first | exact Or.inl rfl | exact Or.inr rfl))) (fun _ _ _ _ _ => (pts_one (pt_cmpR (op_neK (K := K) rfl hr.units) (pe_ix (ix_tupK (K := K) rfl) (pv 1) (pv 2) (fun _ _ => rfl)) (pe_callC c_right_number (hr.mono (by decide)) rfl (pa_cons (pv 0) (pa_cons (pv 1) (pa_cons (pv 2) pa_nil)))) (nomark _)))) (fun _ _ _ _ _ => (pv 2))) pa_nil)))), ?_⟩
  refine spR_body h (fun ds d H0 hF => ?_)
  obtain ⟨m, es, xs, rfl, N, hl, rfl⟩ := hF
  have hml := N.lo
  have hmh := N.hi
  show WP K H0 _ [.im (nD m es), .im (tI xs), .no] _
  refine wp_ret (ev_tupleL (EvM.toL (EvN.toM (ev_lcF (ei_rng1 (j := m) (ea_cons (ev_n0 (ev_im rfl)) ea_nil) (by omega) (by omega)) (irange 0 m.toNat) PyData.int (fun h => !decide (at_ xs h = right m es xs h)) PyData.int rfl (szI (by rw [irange_len]; omega)) (fun k hk => ⟨_, gc_name (by decide), ?_, fun _ => ev_im rfl⟩))))) rfl
  have hk' := irange_mem.mp hk
  exact et_test (ev_neI (ev_ixT (ev_im rfl) (ev_im rfl) (at_nn (by omega) (by omega))) (cv_right (ev_im rfl) (ev_im rfl) (ev_im rfl) N hl))
end
section
variable {P : Program} {w : World} {K : PySem.W.Frag} {mg : Str → Option Value} {base : Heap} {C R : Addr}
abbrev s_law : Stmt := top 15
theorem sc_law : FnScope ["_law_script", "_law_net_here", "_law_many", "_law_due", "_law_numbers", "_law_k", "_law_turn", "_law_hand"] ["_law_script"] (defScope s_law) := ⟨rfl, rfl, rfl, by decide +kernel, rfl, by decide +kernel, by decide +kernel⟩
theorem fn_law {f : Addr} {fd : FuncData} (D : DefAt K mg "law" s_law f fd) (T : Bt mg) (c__law_net : CalOk P w K mg base CX0 2 "_law_net" ["_law_script"] (spR K F__law_net)) (c__law_far : CalOk P w K mg base CX0 1 "_law_far" ["_law_net_here"] (spR K F__law_far)) (c_round_far : CalOk P w K mg base CX0 4 "round_far" ["net", "numbers", "order"] (spR K F_round_far)) (c__law_mix : CalOk P w K mg base CX0 1 "_law_mix" ["_law_cell_here", "_law_prime", "_law_many"] (spR K F__law_mix)) (c__law_order : CalOk P w K mg base CX0 6 "_law_order" ["_law_script", "_law_many", "_law_numbers", "_law_turn"] (spR K F__law_order)) (c_wrong_far : CalOk P w K mg base CX0 3 "wrong_far" ["net", "numbers"] (spR K F_wrong_far)) (c__law_cell : CalOk P w K mg base CX0 1 "_law_cell" ["_law_script", "_law_k"] (spR K F__law_cell)) : FnOk P w K mg base CX0 7 f fd ["_law_script"] (spR K F_law) := by
  refine D.F.ok sc_law (fun vs H Q E h => spR_len h L_law) (fun cdv A outer s H vs Q E hr h => ?_)
  refine ⟨_, (pss_cons (ps_set (i := 1) sc_law.nd rfl (by first | exact Or.inl rfl | exact Or.inr rfl) (pe_callC c__law_net (hr.mono (by decide)) rfl (pa_cons (pv 0) pa_nil)))
      (pss_cons (ps_set (i := 2) sc_law.nd rfl (by first | exact Or.inl rfl | exact Or.inr rfl) (pe_ix (ix_tupK (K := K) rfl) (pv 1) pe_int (fun _ _ => rfl)))
      (pss_cons (ps_set (i := 3) sc_law.nd rfl (by first | exact Or.inl rfl | exact Or.inr rfl) (pe_callC c__law_far (hr.mono (by decide)) rfl (pa_cons (pv 1) pa_nil)))
      (pss_cons (ps_set (i := 4) sc_law.nd rfl (by first | exact Or.inl rfl | exact Or.inr rfl) (pe_callTy (call_tupleK (K := K) rfl) (by rfl) T.tuple_ boot_tuple (pa_cons (pe_lc (own := [("_law_k", 5)]) (g := (gName 5)) (tt := tYes) rfl sc_law.nd (pi_range1 (by rfl) T.range_ (pa_cons (pv 2) pa_nil)) (blkOk_by (own := [("_law_k", 5)]) (N := ["_law_script", "_law_net_here", "_law_many", "_law_due", "_law_numbers", "_law_k", "_law_turn", "_law_hand"]) (sc := defScope s_law) (by decide +kernel)) (fun _ _ _ _ _ => (pg_name (i := 5) sc_law.nd rfl (by first | exact Or.inl rfl | exact Or.inr rfl))) (fun _ _ _ _ _ => pts_nil) (fun _ _ _ _ _ => (pe_callC c__law_mix (hr.mono (by decide)) rfl (pa_cons (pe_op op_add (pe_callC c__law_cell (hr.mono (by decide)) rfl (pa_cons (pv 0) (pa_cons pe_int pa_nil))) (pe_op op_mulB pe_int (pv 5))) (pa_cons pe_int (pa_cons (pe_op op_add (pv 2) pe_int) pa_nil)))))) pa_nil)))
      (pss_cons (ps_for PassesOwn.never rfl (pi_range1 (by rfl) T.range_ (pa_cons (pv 2) pa_nil)) (pg_name (i := 6) sc_law.nd rfl (by first | exact Or.inl rfl | exact Or.inr rfl))
        (pss_cons (ps_if (PW.pt (pw_and (pt_cmpR (op_eqK (K := K) rfl hr.units) (pe_callC c_wrong_far (hr.mono (by decide)) rfl (pa_cons (pv 1) (pa_cons (pv 4) pa_nil))) (pe_tup pa_nil) (nomark _)) (pw_and1 (pt_cmpR (op_neK (K := K) rfl hr.units) (pv 4) (pv 3) (nomark _)))))
          (pss_one (ps_ret pe_bl))
          pss_nil)
        (pss_cons (ps_set (i := 4) sc_law.nd rfl (by first | exact Or.inl rfl | exact Or.inr rfl) (pe_callC c_round_far (hr.mono (by decide)) rfl (pa_cons (pv 1) (pa_cons (pv 4) (pa_cons (pe_callC c__law_order (hr.mono (by decide)) rfl (pa_cons (pv 0) (pa_cons (pv 2) (pa_cons (pv 4) (pa_cons (pv 6) pa_nil))))) pa_nil)))))
        (pss_one (ps_for PassesOwn.never rfl (pi_range1 (by rfl) T.range_ (pa_cons (pv 2) pa_nil)) (pg_name (i := 7) sc_law.nd rfl (by first | exact Or.inl rfl | exact Or.inr rfl))
          (pss_one (ps_if (PW.pt (pw_or (PW.pt (pw_and (pt_cmpR op_le (pe_ix (ix_tupK (K := K) rfl) (pv 3) (pv 7) (fun _ _ => rfl)) (pv 6) (nomark _)) (pw_and1 (pt_cmpR (op_neK (K := K) rfl hr.units) (pe_ix (ix_tupK (K := K) rfl) (pv 4) (pv 7) (fun _ _ => rfl)) (pe_ix (ix_tupK (K := K) rfl) (pv 3) (pv 7) (fun _ _ => rfl)) (nomark _))))) (pw_or1 (PW.pt (pw_and (pt_cmpR op_gt (pe_ix (ix_tupK (K := K) rfl) (pv 3) (pv 7) (fun _ _ => rfl)) (pv 6) (nomark _)) (pw_and1 (pt_cmpR op_le (pe_ix (ix_tupK (K := K) rfl) (pv 4) (pv 7) (fun _ _ => rfl)) (pv 6) (nomark _))))))))
            (pss_one (ps_ret pe_bl))
            pss_nil)))))))
      (pss_one (ps_ret (pe_cmpR (op_eqK (K := K) rfl hr.units) (pv 4) (pv 3) (nomark _))))))))), ?_⟩
  refine spR_body h (fun ds d H0 hF => ?_)
  obtain ⟨ns, rfl, -, -, rfl⟩ := hF
  have hm := nmany_b ns
  have N := net_net ns
  have hN := nums0_nums ns 2 9931
  have dn := dist_nums (m := nmany ns) (es := nedges ns) (by omega)
  have dr := dist_right N
  generalize hxs : nums0 ns 2 9931 (nmany ns + 1) = xs at hN
  obtain ⟨m, hmm⟩ : ∃ m, nmany ns = m := ⟨_, rfl⟩
  obtain ⟨es, hes⟩ : ∃ es, nedges ns = es := ⟨_, rfl⟩
  rw [hmm, hes] at N dn dr
  rw [hmm] at hm hN
  have hl := hN.len
  have hdl := dn.len
  show WP K H0 _ [.im (lI ns), .no, .no, .no, .no, .no, .no, .no] _
  refine wp_seq (wp_set (d := nD m es) (ev_is (cv_net (ev_im rfl)) (by rw [hmm, hes])) ?_)
  refine wp_seq (wp_set (ev_n0 (ev_im rfl)) ?_)
  refine wp_seq (wp_set (cv_lawfar (ev_im rfl) N) ?_)
  refine wp_seq (wp_set (d := tI xs) (ev_is (ev_tupleL (EvM.toL (EvN.toM (ev_lcM (ei_rng1 (j := m) (ea_cons (ev_im rfl) ea_nil) (by omega) (by omega)) (irange 0 m.toNat) PyData.int (fun k => .int (mix (cell ns 2 + 31 * k) 9931 (m + 1))) rfl (szI (by rw [irange_len]; omega)) (fun k hk => ⟨_, gc_name (by decide), ?_⟩))))) ?_) ?_)
  · exact cv_mix (ev_add (cv_cell (ev_im rfl) ev_int (by decide)) (ev_mul ev_int (ev_im rfl) (mulL (by decide) (by decide)))) ev_int (ev_add (ev_im rfl) ev_int) (by decide) (by omega)
  · rw [← hxs]
    show PyData.tuple _ = PyData.tuple _
    unfold nums0
    rw [List.map_map, hmm]; rfl
  refine wp_seq (wp_for (ei_rng1 (j := m) (ea_cons (ev_im rfl) ea_nil) (by omega) (by omega))
    (fun i r => ∃ a6 a7, r = [.im (lI ns), .im (nD m es), .im (.int m), .im (tI (dist m es)), .im (tI (rounds ns m es xs i)), .no, a6, a7]) ⟨_, _, rfl⟩ ?_ ?_)
  · rintro i d _ hi ⟨a6, a7, rfl⟩
    obtain ⟨t, hh, rfl, hlt⟩ := map_get hi
    rw [irange_len] at hlt
    rw [irange_get hlt, Int.zero_add] at hh
    have eh : (i : Int) = t := Option.some.inj hh
    obtain ⟨n1, _⟩ := rounds_ok (ns := ns) N dn dr hN i (by omega)
    obtain ⟨n2, o2⟩ := rounds_ok (ns := ns) N dn dr hN (i + 1) (by omega)
    have e2 : ((i + 1 : Nat) : Int) = (i : Int) + 1 := by omega
    rw [e2] at o2
    have l1 := n1.len
    have l2 := n2.len
    refine ⟨_, gs_name, ?_⟩
    refine wp_seq (wp_if (b := false) (et_is (et_and (et_test (ev_eqT (ms := []) (cv_wrong (ev_im rfl) (ev_im rfl) N l1) (ev_tup ea_nil (szI (by show (0 : Nat) ≤ 100000; decide))))) (fun _ => et_test (ev_neT (ev_im rfl) (ev_im rfl)))) ?_) (fun hb => absurd hb (by decide)) (fun _ => wp_next ?_))
    · by_cases w : wrong m es (rounds ns m es xs i) = []
      · have e : rounds ns m es xs i = dist m es := right_uniq N n1 dn ((wrong_nil (by omega)).mp w) dr
        rw [decide_eq_true e]
        exact Bool.and_false _
      · rw [decide_eq_false w]
        exact Bool.false_and _
    refine wp_seq (wp_set (d := tI (rounds ns m es xs (i + 1))) (ev_is (cv_round (ev_im rfl) (ev_im rfl) (cv_order (ev_im rfl) (ev_im rfl) (ev_im rfl) (ev_im rfl) (by omega) (by omega) l1 (by omega)) N l1 (fun h hh => (ordL_mem (by omega)).mp hh)) (by rw [← eh]; rfl)) ?_)
    refine (wp_for (ei_rng1 (j := m) (ea_cons (ev_im rfl) ea_nil) (by omega) (by omega))
      (fun j r => ∃ a7, r = [.im (lI ns), .im (nD m es), .im (.int m), .im (tI (dist m es)), .im (tI (rounds ns m es xs (i + 1))), .no, .im (.int t), a7]) ⟨_, rfl⟩ ?_ ?_)
    · rintro j d _ hj ⟨a7, rfl⟩
      obtain ⟨h, hh, rfl, hlt2⟩ := map_get hj
      rw [irange_len] at hlt2
      rw [irange_get hlt2, Int.zero_add] at hh
      have eh2 : (j : Int) = h := Option.some.inj hh
      have o := o2 h (by omega) (by omega)
      refine ⟨_, gs_name, ?_⟩
      refine wp_if (b := false) (et_is (et_or (et_and (et_test (ev_le (ev_ixT (ev_im rfl) (ev_im rfl) (at_nn (by omega) (by omega))) (ev_im rfl))) (fun _ => et_test (ev_neI (ev_ixT (ev_im rfl) (ev_im rfl) (at_nn (by omega) (by omega))) (ev_ixT (ev_im rfl) (ev_im rfl) (at_nn (by omega) (by omega)))))) (fun _ => et_and (et_test (ev_gt (ev_ixT (ev_im rfl) (ev_im rfl) (at_nn (by omega) (by omega))) (ev_im rfl))) (fun _ => et_test (ev_le (ev_ixT (ev_im rfl) (ev_im rfl) (at_nn (by omega) (by omega))) (ev_im rfl))))) ?_) (fun hb => absurd hb (by decide)) (fun _ => wp_next ⟨_, rfl⟩)
      show (decide (at_ (dist m es) h ≤ t) && !decide (at_ (rounds ns m es xs (i + 1)) h = at_ (dist m es) h) || decide (t < at_ (dist m es) h) && decide (at_ (rounds ns m es xs (i + 1)) h ≤ t)) = false
      by_cases c : at_ (dist m es) h < (i : Int) + 1
      · have := o.1 c
        rw [decide_eq_true this, decide_eq_false (by omega : ¬ t < at_ (dist m es) h), Bool.not_true, Bool.and_false, Bool.false_and]; rfl
      · have := o.2 (by omega)
        rw [decide_eq_false (by omega : ¬ at_ (dist m es) h ≤ t), decide_eq_false (by omega : ¬ at_ (rounds ns m es xs (i + 1)) h ≤ t), Bool.false_and, Bool.and_false]; rfl
    · rintro _ ⟨a7, rfl⟩
      exact ⟨_, _, rfl⟩
  · rintro _ ⟨a6, a7, rfl⟩
    rw [List.length_map, irange_len]
    refine wp_ret (ev_is (ev_eqT (ev_im rfl) (ev_im rfl)) ?_) rfl
    rw [rounds_end N dn dr hN, decide_eq_true rfl]
end
theorem all_mk {l : PySem.W.OpenLaw} {w : World} {K : PySem.W.Frag} {h : Heap} {mg : Str → Option Value} {fa : Addr} (X : K.In h) (G : h.Ns mainGlobals mg) (hfa : mg "law" = some (.ref fa))
    {f__law_mix : Addr} {oc__law_mix kV__law_mix dc__law_mix pm__law_mix cd__law_mix ct__law_mix : Value} {od__law_mix an__law_mix : Option Addr} {sl__law_mix : Array (Option Value)}
    (a__law_mix : PySem.W.nsIn K mainGlobals "_law_mix" = some (some (.ref f__law_mix)))
    (l__law_mix : K.lookup f__law_mix = some ⟨oc__law_mix, od__law_mix, .func (PySem.W.fnOf "_law_mix" "_law_mix" (defArgs s__law_mix) (defBody s__law_mix) (defScope s__law_mix) .none kV__law_mix dc__law_mix pm__law_mix an__law_mix cd__law_mix ct__law_mix), sl__law_mix⟩)
    (c__law_mix : PySem.W.codeIn K cd__law_mix "_law_mix" = true) (k__law_mix : PySem.W.keepIn K (.ref f__law_mix) = true)
    {f__law_cell : Addr} {oc__law_cell kV__law_cell dc__law_cell pm__law_cell cd__law_cell ct__law_cell : Value} {od__law_cell an__law_cell : Option Addr} {sl__law_cell : Array (Option Value)}
    (a__law_cell : PySem.W.nsIn K mainGlobals "_law_cell" = some (some (.ref f__law_cell)))
    (l__law_cell : K.lookup f__law_cell = some ⟨oc__law_cell, od__law_cell, .func (PySem.W.fnOf "_law_cell" "_law_cell" (defArgs s__law_cell) (defBody s__law_cell) (defScope s__law_cell) .none kV__law_cell dc__law_cell pm__law_cell an__law_cell cd__law_cell ct__law_cell), sl__law_cell⟩)
    (c__law_cell : PySem.W.codeIn K cd__law_cell "_law_cell" = true) (k__law_cell : PySem.W.keepIn K (.ref f__law_cell) = true)
    {f__law_net : Addr} {oc__law_net kV__law_net dc__law_net pm__law_net cd__law_net ct__law_net : Value} {od__law_net an__law_net : Option Addr} {sl__law_net : Array (Option Value)}
    (a__law_net : PySem.W.nsIn K mainGlobals "_law_net" = some (some (.ref f__law_net)))
    (l__law_net : K.lookup f__law_net = some ⟨oc__law_net, od__law_net, .func (PySem.W.fnOf "_law_net" "_law_net" (defArgs s__law_net) (defBody s__law_net) (defScope s__law_net) .none kV__law_net dc__law_net pm__law_net an__law_net cd__law_net ct__law_net), sl__law_net⟩)
    (c__law_net : PySem.W.codeIn K cd__law_net "_law_net" = true) (k__law_net : PySem.W.keepIn K (.ref f__law_net) = true)
    {f__law_far : Addr} {oc__law_far kV__law_far dc__law_far pm__law_far cd__law_far ct__law_far : Value} {od__law_far an__law_far : Option Addr} {sl__law_far : Array (Option Value)}
    (a__law_far : PySem.W.nsIn K mainGlobals "_law_far" = some (some (.ref f__law_far)))
    (l__law_far : K.lookup f__law_far = some ⟨oc__law_far, od__law_far, .func (PySem.W.fnOf "_law_far" "_law_far" (defArgs s__law_far) (defBody s__law_far) (defScope s__law_far) .none kV__law_far dc__law_far pm__law_far an__law_far cd__law_far ct__law_far), sl__law_far⟩)
    (c__law_far : PySem.W.codeIn K cd__law_far "_law_far" = true) (k__law_far : PySem.W.keepIn K (.ref f__law_far) = true)
    {f_put : Addr} {oc_put kV_put dc_put pm_put cd_put ct_put : Value} {od_put an_put : Option Addr} {sl_put : Array (Option Value)}
    (a_put : PySem.W.nsIn K mainGlobals "put" = some (some (.ref f_put)))
    (l_put : K.lookup f_put = some ⟨oc_put, od_put, .func (PySem.W.fnOf "put" "put" (defArgs s_put) (defBody s_put) (defScope s_put) .none kV_put dc_put pm_put an_put cd_put ct_put), sl_put⟩)
    (c_put : PySem.W.codeIn K cd_put "put" = true) (k_put : PySem.W.keepIn K (.ref f_put) = true)
    {f_neighbours : Addr} {oc_neighbours kV_neighbours dc_neighbours pm_neighbours cd_neighbours ct_neighbours : Value} {od_neighbours an_neighbours : Option Addr} {sl_neighbours : Array (Option Value)}
    (a_neighbours : PySem.W.nsIn K mainGlobals "neighbours" = some (some (.ref f_neighbours)))
    (l_neighbours : K.lookup f_neighbours = some ⟨oc_neighbours, od_neighbours, .func (PySem.W.fnOf "neighbours" "neighbours" (defArgs s_neighbours) (defBody s_neighbours) (defScope s_neighbours) .none kV_neighbours dc_neighbours pm_neighbours an_neighbours cd_neighbours ct_neighbours), sl_neighbours⟩)
    (c_neighbours : PySem.W.codeIn K cd_neighbours "neighbours" = true) (k_neighbours : PySem.W.keepIn K (.ref f_neighbours) = true)
    {f_right_number : Addr} {oc_right_number kV_right_number dc_right_number pm_right_number cd_right_number ct_right_number : Value} {od_right_number an_right_number : Option Addr} {sl_right_number : Array (Option Value)}
    (a_right_number : PySem.W.nsIn K mainGlobals "right_number" = some (some (.ref f_right_number)))
    (l_right_number : K.lookup f_right_number = some ⟨oc_right_number, od_right_number, .func (PySem.W.fnOf "right_number" "right_number" (defArgs s_right_number) (defBody s_right_number) (defScope s_right_number) .none kV_right_number dc_right_number pm_right_number an_right_number cd_right_number ct_right_number), sl_right_number⟩)
    (c_right_number : PySem.W.codeIn K cd_right_number "right_number" = true) (k_right_number : PySem.W.keepIn K (.ref f_right_number) = true)
    {f_mended_far : Addr} {oc_mended_far kV_mended_far dc_mended_far pm_mended_far cd_mended_far ct_mended_far : Value} {od_mended_far an_mended_far : Option Addr} {sl_mended_far : Array (Option Value)}
    (a_mended_far : PySem.W.nsIn K mainGlobals "mended_far" = some (some (.ref f_mended_far)))
    (l_mended_far : K.lookup f_mended_far = some ⟨oc_mended_far, od_mended_far, .func (PySem.W.fnOf "mended_far" "mended_far" (defArgs s_mended_far) (defBody s_mended_far) (defScope s_mended_far) .none kV_mended_far dc_mended_far pm_mended_far an_mended_far cd_mended_far ct_mended_far), sl_mended_far⟩)
    (c_mended_far : PySem.W.codeIn K cd_mended_far "mended_far" = true) (k_mended_far : PySem.W.keepIn K (.ref f_mended_far) = true)
    {f_round_far : Addr} {oc_round_far kV_round_far dc_round_far pm_round_far cd_round_far ct_round_far : Value} {od_round_far an_round_far : Option Addr} {sl_round_far : Array (Option Value)}
    (a_round_far : PySem.W.nsIn K mainGlobals "round_far" = some (some (.ref f_round_far)))
    (l_round_far : K.lookup f_round_far = some ⟨oc_round_far, od_round_far, .func (PySem.W.fnOf "round_far" "round_far" (defArgs s_round_far) (defBody s_round_far) (defScope s_round_far) .none kV_round_far dc_round_far pm_round_far an_round_far cd_round_far ct_round_far), sl_round_far⟩)
    (c_round_far : PySem.W.codeIn K cd_round_far "round_far" = true) (k_round_far : PySem.W.keepIn K (.ref f_round_far) = true)
    {f__law_perm : Addr} {oc__law_perm kV__law_perm dc__law_perm pm__law_perm cd__law_perm ct__law_perm : Value} {od__law_perm an__law_perm : Option Addr} {sl__law_perm : Array (Option Value)}
    (a__law_perm : PySem.W.nsIn K mainGlobals "_law_perm" = some (some (.ref f__law_perm)))
    (l__law_perm : K.lookup f__law_perm = some ⟨oc__law_perm, od__law_perm, .func (PySem.W.fnOf "_law_perm" "_law_perm" (defArgs s__law_perm) (defBody s__law_perm) (defScope s__law_perm) .none kV__law_perm dc__law_perm pm__law_perm an__law_perm cd__law_perm ct__law_perm), sl__law_perm⟩)
    (c__law_perm : PySem.W.codeIn K cd__law_perm "_law_perm" = true) (k__law_perm : PySem.W.keepIn K (.ref f__law_perm) = true)
    {f__law_order : Addr} {oc__law_order kV__law_order dc__law_order pm__law_order ct__law_order : Value} {od__law_order an__law_order : Option Addr} {sl__law_order : Array (Option Value)}
    (a__law_order : PySem.W.nsIn K mainGlobals "_law_order" = some (some (.ref f__law_order)))
    {cA : Addr}
    (l__law_order : K.lookup f__law_order = some ⟨oc__law_order, od__law_order, .func (PySem.W.fnOf "_law_order" "_law_order" (defArgs s__law_order) (defBody s__law_order) (defScope s__law_order) .none kV__law_order dc__law_order pm__law_order an__law_order (.ref cA) ct__law_order), sl__law_order⟩)
    (c__law_order : PySem.W.codeIn K (.ref cA) "_law_order" = true) (k__law_order : PySem.W.keepIn K (.ref f__law_order) = true)
    {f_wrong_far : Addr} {oc_wrong_far kV_wrong_far dc_wrong_far pm_wrong_far cd_wrong_far ct_wrong_far : Value} {od_wrong_far an_wrong_far : Option Addr} {sl_wrong_far : Array (Option Value)}
    (a_wrong_far : PySem.W.nsIn K mainGlobals "wrong_far" = some (some (.ref f_wrong_far)))
    (l_wrong_far : K.lookup f_wrong_far = some ⟨oc_wrong_far, od_wrong_far, .func (PySem.W.fnOf "wrong_far" "wrong_far" (defArgs s_wrong_far) (defBody s_wrong_far) (defScope s_wrong_far) .none kV_wrong_far dc_wrong_far pm_wrong_far an_wrong_far cd_wrong_far ct_wrong_far), sl_wrong_far⟩)
    (c_wrong_far : PySem.W.codeIn K cd_wrong_far "wrong_far" = true) (k_wrong_far : PySem.W.keepIn K (.ref f_wrong_far) = true)
    {f_law : Addr} {oc_law kV_law dc_law pm_law cd_law ct_law : Value} {od_law an_law : Option Addr} {sl_law : Array (Option Value)}
    (a_law : PySem.W.nsIn K mainGlobals "law" = some (some (.ref f_law)))
    (l_law : K.lookup f_law = some ⟨oc_law, od_law, .func (PySem.W.fnOf "law" "law" (defArgs s_law) (defBody s_law) (defScope s_law) .none kV_law dc_law pm_law an_law cd_law ct_law), sl_law⟩)
    (c_law : PySem.W.codeIn K cd_law "law" = true) (k_law : PySem.W.keepIn K (.ref f_law) = true)
    (b_len : PySem.W.nsIn K mainGlobals "len" = some none)
    (b_sorted : PySem.W.nsIn K mainGlobals "sorted" = some none)
    (b_min : PySem.W.nsIn K mainGlobals "min" = some none)
    (b_max : PySem.W.nsIn K mainGlobals "max" = some none)
    (b_all : PySem.W.nsIn K mainGlobals "all" = some none)
    (b_isinstance : PySem.W.nsIn K mainGlobals "isinstance" = some none)
    (b_tuple : PySem.W.nsIn K mainGlobals "tuple" = some none)
    (b_list : PySem.W.nsIn K mainGlobals "list" = some none)
    (b_int : PySem.W.nsIn K mainGlobals "int" = some none)
    (b_bool : PySem.W.nsIn K mainGlobals "bool" = some none)
    (b_range : PySem.W.nsIn K mainGlobals "range" = some none)
    (b_enumerate : PySem.W.nsIn K mainGlobals "enumerate" = some none)
    (b_reversed : PySem.W.nsIn K mainGlobals "reversed" = some none)
    (b_ValueError : PySem.W.nsIn K mainGlobals "ValueError" = some none)
    (hT1 : PySem.W.codeHdIn K cA PL = true) (hT2 : K.lookup PL = none)
    : ∃ (cA : Addr) (fd : FuncData), PySem.W.codeHdIn K cA PL = true ∧ K.lookup PL = none ∧ (∀ (s : Shared) (v : Value), BindsTo s fd ⟨[v], []⟩ [("_law_script", v)]) ∧ ∀ base : Heap, K.In base → base.Ns mainGlobals mg → LamX.TabB base mg cA PL → FnOk l.prog w K mg base CX0 7 fa fd ["_law_script"] (spR K F_law) := by
  have e := hfa.symm.trans (PySem.W.mg_of X G a_law)
  cases e
  have T : Bt mg := ⟨PySem.W.mg_none_of X G b_len, PySem.W.mg_none_of X G b_sorted, PySem.W.mg_none_of X G b_min, PySem.W.mg_none_of X G b_max, PySem.W.mg_none_of X G b_all, PySem.W.mg_none_of X G b_isinstance, PySem.W.mg_none_of X G b_tuple, PySem.W.mg_none_of X G b_list, PySem.W.mg_none_of X G b_int, PySem.W.mg_none_of X G b_bool, PySem.W.mg_none_of X G b_range, PySem.W.mg_none_of X G b_enumerate, PySem.W.mg_none_of X G b_reversed, PySem.W.mg_none_of X G b_ValueError⟩
  refine ⟨cA, PySem.W.fnOf "law" "law" (defArgs s_law) (defBody s_law) (defScope s_law) .none kV_law dc_law pm_law an_law cd_law ct_law, hT1, hT2, fun s v => .of_eq rfl, fun base _ _ TB => ?_⟩
  have g__law_mix := ok__law_mix (P := l.prog) (w := w) (base := base) ⟨fun_mk (st := s__law_mix) l__law_mix c__law_mix k__law_mix, PySem.W.mg_of X G a__law_mix⟩ T
  have g__law_cell := ok__law_cell (P := l.prog) (w := w) (base := base) ⟨fun_mk (st := s__law_cell) l__law_cell c__law_cell k__law_cell, PySem.W.mg_of X G a__law_cell⟩ T
  have g__law_net := ok__law_net (P := l.prog) (w := w) (base := base) ⟨fun_mk (st := s__law_net) l__law_net c__law_net k__law_net, PySem.W.mg_of X G a__law_net⟩ T g__law_mix g__law_cell
  have g__law_far := ok__law_far (P := l.prog) (w := w) (base := base) ⟨fun_mk (st := s__law_far) l__law_far c__law_far k__law_far, PySem.W.mg_of X G a__law_far⟩ T
  have g_put := ok_put (P := l.prog) (w := w) (base := base) ⟨fun_mk (st := s_put) l_put c_put k_put, PySem.W.mg_of X G a_put⟩ T
  have g_neighbours := ok_neighbours (P := l.prog) (w := w) (base := base) ⟨fun_mk (st := s_neighbours) l_neighbours c_neighbours k_neighbours, PySem.W.mg_of X G a_neighbours⟩ T
  have g_right_number := ok_right_number (P := l.prog) (w := w) (base := base) ⟨fun_mk (st := s_right_number) l_right_number c_right_number k_right_number, PySem.W.mg_of X G a_right_number⟩ T g_neighbours
  have g_mended_far := ok_mended_far (P := l.prog) (w := w) (base := base) ⟨fun_mk (st := s_mended_far) l_mended_far c_mended_far k_mended_far, PySem.W.mg_of X G a_mended_far⟩ T g_put g_right_number
  have g_round_far := ok_round_far (P := l.prog) (w := w) (base := base) ⟨fun_mk (st := s_round_far) l_round_far c_round_far k_round_far, PySem.W.mg_of X G a_round_far⟩ T g_mended_far
  have g__law_perm := ok__law_perm (P := l.prog) (w := w) (base := base) ⟨fun_mk (st := s__law_perm) l__law_perm c__law_perm k__law_perm, PySem.W.mg_of X G a__law_perm⟩ T g__law_mix
  have g__law_order := ok__law_order (P := l.prog) (w := w) (base := base) ⟨fun_mk (st := s__law_order) l__law_order c__law_order k__law_order, PySem.W.mg_of X G a__law_order⟩ rfl TB T g__law_cell g__law_perm
  have g_wrong_far := ok_wrong_far (P := l.prog) (w := w) (base := base) ⟨fun_mk (st := s_wrong_far) l_wrong_far c_wrong_far k_wrong_far, PySem.W.mg_of X G a_wrong_far⟩ T g_right_number
  exact fn_law (P := l.prog) (w := w) (base := base) ⟨fun_mk (st := s_law) l_law c_law k_law, PySem.W.mg_of X G a_law⟩ T g__law_net g__law_far g_round_far g__law_mix g__law_order g_wrong_far g__law_cell

theorem walk {l : PySem.W.OpenLaw} {q : Program} {loose : List Str} {XP : (Str → Option Value) → Heap → Prop} {YP : World → Heap → Prop} {d : DefRec} {K : Params → PySem.W.Frag} (hn : l.most = some 63) (hdf : d.params.defaults = [])
    (hY : ∀ (w : World) (h : Heap), YP w h → (K w.params).In h) (hT : ∀ (w : World) (h : Heap), YP w h → h.get? PL = some (PySem.W.tabObj #[]))
    (F : ∀ (w : World) (mg : Str → Option Value) (fa : Addr) (h : Heap), (K w.params).In h → h.Ns mainGlobals mg → mg d.name = some (.ref fa) →
      ∃ (cA : Addr) (fd : FuncData), PySem.W.codeHdIn (K w.params) cA PL = true ∧ (K w.params).lookup PL = none ∧ (∀ (s : Shared) (u : Value), BindsTo s fd ⟨[u], []⟩ [("_law_script", u)]) ∧ ∀ base : Heap, (K w.params).In base → base.Ns mainGlobals mg → LamX.TabB base mg cA PL → FnOk l.prog w (K w.params) mg base CX0 7 fa fd ["_law_script"] (spR (K w.params) F_law)) :
    PySem.W.WalkO q loose XP YP l.row.toRowW d [] (fun f vs => PySem.call f vs) :=
  LamX.walk_ofTs (n := 63) (k := 7) (x := "_law_script") (CX := fun _ => CX0) hn (by decide) hdf ⟨rfl, by decide, by decide⟩ hY (fun w mg fa h Y KX G hm => by
    obtain ⟨cA, fd, h1, h2, h3, h4⟩ := F w mg fa h KX G hm
    refine ⟨fd, [(cA, PL)], spR (K w.params) F_law, fun p hp => ?_, fun p hp => ?_, fun p hp => ?_, h3, fun H a ns hl hb hH hS => ?_, fun base a b c => h4 base a b (c (cA, PL) List.mem_cons_self)⟩
    · rw [List.mem_singleton.mp hp]; exact hT w h Y
    · rw [List.mem_singleton.mp hp]; exact h2
    · rw [List.mem_singleton.mp hp]; exact PySem.W.codeHd_of_K KX h1
    · exact sp_start (hH (cA, PL) List.mem_cons_self) hS ⟨ns, rfl, hl, hb, rfl⟩) fun _ _ _ _ _ z => z
end Od

open PySem PySem.W PyProof.Rows in
set_option maxRecDepth 100000 in
set_option maxHeartbeats 0 in
theorem PySem.Challenge.cw_oddreel_k06_whole_rounds_bring_distances_holds : PySem.Challenge.rw_oddreel_k06_whole_rounds_bring_distances.Holds := by
  w_on; o_law; k_head; (case hw => w_witness2)
  k_fill
  refine Od.walk (l := PySem.Challenge.rw_oddreel_k06_whole_rounds_bring_distances) rfl rfl (fun w h Y => PySem.W.km_in_of Y) (fun w h Y => PySem.W.km_tabs_of Y _ (by unfold Od.PL; simp)) ?F
  case F =>
    intro w mg fa h KX G hmg
    refine' Od.all_mk KX G hmg ?a__law_mix ?l__law_mix ?c__law_mix ?k__law_mix ?a__law_cell ?l__law_cell ?c__law_cell ?k__law_cell ?a__law_net ?l__law_net ?c__law_net ?k__law_net ?a__law_far ?l__law_far ?c__law_far ?k__law_far ?a_put ?l_put ?c_put ?k_put ?a_neighbours ?l_neighbours ?c_neighbours ?k_neighbours ?a_right_number ?l_right_number ?c_right_number ?k_right_number ?a_mended_far ?l_mended_far ?c_mended_far ?k_mended_far ?a_round_far ?l_round_far ?c_round_far ?k_round_far ?a__law_perm ?l__law_perm ?c__law_perm ?k__law_perm ?a__law_order ?l__law_order ?c__law_order ?k__law_order ?a_wrong_far ?l_wrong_far ?c_wrong_far ?k_wrong_far ?a_law ?l_law ?c_law ?k_law ?b_len ?b_sorted ?b_min ?b_max ?b_all ?b_isinstance ?b_tuple ?b_list ?b_int ?b_bool ?b_range ?b_enumerate ?b_reversed ?b_ValueError ?hT1 ?hT2
    (case a__law_mix => k_is)
    (case l__law_mix => k_is)
    (case c__law_mix => k_is)
    (case k__law_mix => k_is)
    (case a__law_cell => k_is)
    (case l__law_cell => k_is)
    (case c__law_cell => k_is)
    (case k__law_cell => k_is)
    (case a__law_net => k_is)
    (case l__law_net => k_is)
    (case c__law_net => k_is)
    (case k__law_net => k_is)
    (case a__law_far => k_is)
    (case l__law_far => k_is)
    (case c__law_far => k_is)
    (case k__law_far => k_is)
    (case a_put => k_is)
    (case l_put => k_is)
    (case c_put => k_is)
    (case k_put => k_is)
    (case a_neighbours => k_is)
    (case l_neighbours => k_is)
    (case c_neighbours => k_is)
    (case k_neighbours => k_is)
    (case a_right_number => k_is)
    (case l_right_number => k_is)
    (case c_right_number => k_is)
    (case k_right_number => k_is)
    (case a_mended_far => k_is)
    (case l_mended_far => k_is)
    (case c_mended_far => k_is)
    (case k_mended_far => k_is)
    (case a_round_far => k_is)
    (case l_round_far => k_is)
    (case c_round_far => k_is)
    (case k_round_far => k_is)
    (case a__law_perm => k_is)
    (case l__law_perm => k_is)
    (case c__law_perm => k_is)
    (case k__law_perm => k_is)
    (case a__law_order => k_is)
    (case l__law_order => k_is)
    (case c__law_order => k_is)
    (case k__law_order => k_is)
    (case a_wrong_far => k_is)
    (case l_wrong_far => k_is)
    (case c_wrong_far => k_is)
    (case k_wrong_far => k_is)
    (case a_law => k_is)
    (case l_law => k_is)
    (case c_law => k_is)
    (case k_law => k_is)
    (case b_len => k_is)
    (case b_sorted => k_is)
    (case b_min => k_is)
    (case b_max => k_is)
    (case b_all => k_is)
    (case b_isinstance => k_is)
    (case b_tuple => k_is)
    (case b_list => k_is)
    (case b_int => k_is)
    (case b_bool => k_is)
    (case b_range => k_is)
    (case b_enumerate => k_is)
    (case b_reversed => k_is)
    (case b_ValueError => k_is)
    (case hT1 => kernel_rfl)
    (case hT2 => kernel_rfl)
