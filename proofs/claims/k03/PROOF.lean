import PyProof.Rows.All
import Wide.All
import OpenK.AllK
import Wide.FinOn
import HandS.ForMost
import HandS.ForExc
import HandS.TupAny
import HandS.TupMul
import HandS.SortInts
import HandS.IsInst
import HandS.Style
import HandS.EndBits
import HandS.Lambda
import HandS.EndTab
import HandS.FromBytesMap
import HandS.SortKw
import HandS.Flow
import KE.DataCmp
import KE.KMinKey
import HandS.ExcIs
import HandS.Conv
import PySem.Challenge.RW_oddreel_k03_whole_one_mark_at_last
set_option Elab.async false
set_option linter.all false
set_option maxRecDepth 100000
set_option maxHeartbeats 4000000
namespace Od
/-- the name of the lambda that is made, and where the table of its maker's code stands -/
def QL : PySem.Str := "_law_pick.<locals>.<lambda>"
def PL : PySem.Addr := 86
end Od

namespace Od
open PySem PySem.Spec PyProof.Rows L2

/-! ### data -/
section
variable {K : PySem.W.Frag} {H H' : Hp}
theorem sqt_mono {a : Addr} {xs : List V} (e : Same H H') (h : SqT K H a xs) : SqT K H' a xs := by
  rcases h with (h | ⟨o, h⟩) | h
  · exact .inl (.inl (e _ _ h))
  · exact .inl (.inr ⟨o, e _ _ h⟩)
  · exact .inr h
mutual
theorem dp_mono (e : Same H H') : ∀ (d : PyData) (v : V), Dp K H v d → Dp K H' v d
  | .none, _, h => by cases h; exact .non
  | .bool b, _, h => by cases h; exact .bl b
  | .int i, _, h => by cases h; exact .int i
  | .str x, _, h => by cases h; exact .str x
  | .list ds, _, h => by
    cases h with
    | lst hs ha => exact .lst (e.seq hs) (dpa_mono e ds _ ha)
  | .tuple ds, _, h => by
    cases h with
    | tup hs ha => exact .tup (sqt_mono e hs) (dpa_mono e ds _ ha)
  | .dict _, _, h => by cases h
theorem dpa_mono (e : Same H H') : ∀ (ds : List PyData) (vs : List V), DpAll K H vs ds → DpAll K H' vs ds
  | [], _, h => by cases h; exact .nil
  | d :: ds, _, h => by
    cases h with
    | cons h1 h2 => exact .cons (dp_mono e d _ h1) (dpa_mono e ds _ h2)
end
theorem dpa_len : ∀ {vs : List V} {ds : List PyData}, DpAll K H vs ds → vs.length = ds.length
  | _, _, .nil => rfl
  | _, _, .cons _ t => by rw [List.length_cons, List.length_cons, dpa_len t]
theorem dpa_get : ∀ {vs : List V} {ds : List PyData} {i : Nat} {d : PyData}, DpAll K H vs ds → ds[i]? = some d → ∃ v, vs[i]? = some v ∧ Dp K H v d
  | _, _, _, _, .nil, e => by simp at e
  | _, _, 0, _, .cons r _, e => by simp at e; subst e; exact ⟨_, rfl, r⟩
  | _, _, i + 1, _, .cons _ t, e => by
    obtain ⟨v, h1, h2⟩ := dpa_get (i := i) t (by simpa using e)
    exact ⟨v, by simpa using h1, h2⟩
theorem dpa_getv : ∀ {vs : List V} {ds : List PyData} {i : Nat} {v : V}, DpAll K H vs ds → vs[i]? = some v → ∃ d, ds[i]? = some d ∧ Dp K H v d
  | _, _, _, _, .nil, e => by simp at e
  | _, _, 0, _, .cons r _, e => by simp at e; subst e; exact ⟨_, rfl, r⟩
  | _, _, i + 1, _, .cons _ t, e => by
    obtain ⟨d, h1, h2⟩ := dpa_getv (i := i) t (by simpa using e)
    exact ⟨d, by simpa using h1, h2⟩
theorem dpa_app : ∀ {vs ws : List V} {ds es : List PyData}, DpAll K H vs ds → DpAll K H ws es → DpAll K H (vs ++ ws) (ds ++ es)
  | _, _, _, _, .nil, s => s
  | _, _, _, _, .cons r t, s => .cons r (dpa_app t s)
theorem dpa_take : ∀ {vs : List V} {ds : List PyData} (n : Nat), DpAll K H vs ds → DpAll K H (vs.take n) (ds.take n)
  | _, _, 0, _ => .nil
  | _, _, _ + 1, .nil => .nil
  | _, _, n + 1, .cons r t => .cons r (dpa_take n t)
theorem dpa_drop : ∀ {vs : List V} {ds : List PyData} (n : Nat), DpAll K H vs ds → DpAll K H (vs.drop n) (ds.drop n)
  | _, _, 0, s => s
  | _, _, _ + 1, .nil => .nil
  | _, _, n + 1, .cons _ t => dpa_drop n t
theorem dpa_set {v : V} {d : PyData} (r : Dp K H v d) : ∀ {vs : List V} {ds : List PyData} (n : Nat), DpAll K H vs ds → DpAll K H (vs.set n v) (ds.set n d)
  | _, _, _, .nil => .nil
  | _, _, 0, .cons _ t => .cons r t
  | _, _, n + 1, .cons q t => .cons q (dpa_set r n t)
theorem dpa_erase : ∀ {vs : List V} {ds : List PyData} (n : Nat), DpAll K H vs ds → DpAll K H (vs.eraseIdx n) (ds.eraseIdx n)
  | _, _, _, .nil => .nil
  | _, _, 0, .cons _ t => t
  | _, _, n + 1, .cons q t => .cons q (dpa_erase n t)
theorem dpa_ints : ∀ ns : List Int, DpAll K H (ns.map V.int) (ns.map PyData.int)
  | [] => .nil
  | n :: ns => .cons (.int n) (dpa_ints ns)
theorem dpa_ints_inv : ∀ {ns : List Int} {vs : List V}, DpAll K H vs (ns.map PyData.int) → vs = ns.map V.int
  | [], _, h => by cases h; rfl
  | n :: ns, _, h => by
    cases h with
    | cons h1 h2 => cases h1; rw [dpa_ints_inv h2]; rfl
theorem dpa_bls : ∀ bs : List Bool, DpAll K H (bs.map V.bl) (bs.map PyData.bool)
  | [] => .nil
  | b :: bs => .cons (.bl b) (dpa_bls bs)
theorem dpa_bls_inv : ∀ {bs : List Bool} {vs : List V}, DpAll K H vs (bs.map PyData.bool) → vs = bs.map V.bl
  | [], _, h => by cases h; rfl
  | n :: ns, _, h => by
    cases h with
    | cons h1 h2 => cases h1; rw [dpa_bls_inv h2]; rfl
theorem dpa_rep {v : V} {d : PyData} (r : Dp K H v d) : ∀ n : Nat, DpAll K H (List.replicate n v) (List.replicate n d)
  | 0 => .nil
  | n + 1 => .cons r (dpa_rep r n)
end

/-- all but the tables of code objects stay, and these stay tables of their own code -/
structure Gro (H H' : Hp) : Prop where
  e : ∀ b o, H b = some o → (∀ ps, o ≠ .tbl ps) → H' b = some o
  n : ∀ b, H b ≠ none → H' b ≠ none
  t : LamX.TabS H PL QL → LamX.TabS H' PL QL
instance {H H' : Hp} : CoeFun (Gro H H') fun _ => ∀ b xs, H b = some (.lst xs) → H' b = some (.lst xs) := ⟨fun g b xs h => g.e b _ h fun ps z => nomatch z⟩
theorem Gro.of {H H' : Hp} (h : Same H H') : Gro H H' := ⟨fun b o q _ => h b o q, fun b m => by
  cases q : H b with
  | none => exact absurd q m
  | some o => rw [h b o q]; exact fun z => (nomatch z), fun t => t.ext h⟩
theorem Gro.refl (H : Hp) : Gro H H := .of (.refl H)
theorem Gro.trans {H H1 H2 : Hp} (a : Gro H H1) (b : Gro H1 H2) : Gro H H2 := ⟨fun c o h n => b.e c o (a.e c o h n) n, fun c h => b.n c (a.n c h), fun t => b.t (a.t t)⟩
theorem Gro.free {H H' : Hp} {l : Addr} (g : Gro H H') (h : H' l = none) : H l = none := by
  cases q : H l with
  | none => rfl
  | some o => exact absurd h (g.n l (by rw [q]; exact fun z => nomatch z))
theorem Gro.mutL {H H' : Hp} {p : Addr} {xs : List V} {o : HO} (g : Gro H H') (h : H p = none) (hl : H' p = some (.lst xs)) : Gro H (upd H' p o) :=
  ⟨fun b u e n => by rw [upd_ne (ne_of_none e h)]; exact g.e b u e n, fun b m => by
    by_cases hb : b = p
    · rw [hb, upd_same]; exact fun z => nomatch z
    · rw [upd_ne hb]; exact g.n b m, fun t => by
    obtain ⟨ps, h1, h2, h3⟩ := g.t t
    have e1 : PL ≠ p := fun z => by rw [z, hl] at h1; cases h1
    refine ⟨ps, by rw [upd_ne e1]; exact h1, h2, fun pos cv hc => ?_⟩
    obtain ⟨c, q1, q2⟩ := h3 pos cv hc
    have e2 : c ≠ p := fun z => by rw [z, hl] at q2; unfold LamX.CodeO at q2; cases q2
    exact ⟨c, q1, by rw [upd_ne e2]; exact q2⟩⟩
section
variable {K : PySem.W.Frag} {H H' : Hp}
theorem Gro.seq {a : Addr} {xs : List V} (g : Gro H H') (h : SqL K H a xs) : SqL K H' a xs := by
  rcases h with (h | ⟨o, h⟩) | h
  · exact .inl (.inl (g.e _ _ h fun ps z => nomatch z))
  · exact .inl (.inr ⟨o, g.e _ _ h fun ps z => nomatch z⟩)
  · exact .inr h
theorem sqt_monoG {a : Addr} {xs : List V} (g : Gro H H') (h : SqT K H a xs) : SqT K H' a xs := by
  rcases h with (h | ⟨o, h⟩) | h
  · exact .inl (.inl (g.e _ _ h fun ps z => nomatch z))
  · exact .inl (.inr ⟨o, g.e _ _ h fun ps z => nomatch z⟩)
  · exact .inr h
mutual
theorem dp_monoG (e : Gro H H') : ∀ (d : PyData) (v : V), Dp K H v d → Dp K H' v d
  | .none, _, h => by cases h; exact .non
  | .bool b, _, h => by cases h; exact .bl b
  | .int i, _, h => by cases h; exact .int i
  | .str x, _, h => by cases h; exact .str x
  | .list ds, _, h => by
    cases h with
    | lst hs ha => exact .lst (e.seq hs) (dpa_monoG e ds _ ha)
  | .tuple ds, _, h => by
    cases h with
    | tup hs ha => exact .tup (sqt_monoG e hs) (dpa_monoG e ds _ ha)
  | .dict _, _, h => by cases h
theorem dpa_monoG (e : Gro H H') : ∀ (ds : List PyData) (vs : List V), DpAll K H vs ds → DpAll K H' vs ds
  | [], _, h => by cases h; exact .nil
  | d :: ds, _, h => by
    cases h with
    | cons h1 h2 => exact .cons (dp_monoG e d _ h1) (dpa_monoG e ds _ h2)
end
end
/-- the table of code objects stands, and the base knows nothing of it -/
structure Tb (B H : Hp) : Prop where
  b : B PL = none
  t : LamX.TabS H PL QL
theorem Tb.ne {B H : Hp} (T : Tb B H) : H PL ≠ none := by
  obtain ⟨ps, h, _⟩ := T.t
  rw [h]; exact fun z => nomatch z
theorem Tb.mutL {B H : Hp} {p : Addr} {xs : List V} {o : HO} (T : Tb B H) (hl : H p = some (.lst xs)) : Tb B (upd H p o) := ⟨T.b, by
  obtain ⟨ps, h1, h2, h3⟩ := T.t
  have e1 : PL ≠ p := fun z => by rw [z, hl] at h1; cases h1
  refine ⟨ps, by rw [upd_ne e1]; exact h1, h2, fun pos cv hc => ?_⟩
  obtain ⟨c, q1, q2⟩ := h3 pos cv hc
  have e2 : c ≠ p := fun z => by rw [z, hl] at q2; unfold LamX.CodeO at q2; cases q2
  exact ⟨c, q1, by rw [upd_ne e2]; exact q2⟩⟩
/-! ### a step: base and heap grow; what the base does not know of the heap it does not learn -/
structure Stp (B H B' H' : Hp) : Prop where
  b : Same B B'
  h : Gro H H'
  i : Same B' H'
  f : ∀ a, B a = none → H a ≠ none → B' a = none
theorem Stp.refl {B H : Hp} (i : Same B H) : Stp B H B H := ⟨Same.refl _, Gro.refl _, i, fun a h _ => h⟩
theorem Stp.trans {B H B1 H1 B2 H2 : Hp} (x : Stp B H B1 H1) (y : Stp B1 H1 B2 H2) : Stp B H B2 H2 := ⟨x.b.trans y.b, x.h.trans y.h, y.i, fun a n m => y.f a (x.f a n m) (x.h.n a m)⟩
theorem same_new {H : Hp} {p : Addr} {o : HO} (h : H p = none) : Same H (upd H p o) := fun b x e => by
  rw [upd_ne (ne_of_none e h)]
  exact e
theorem same_upd {B H : Hp} {p : Addr} {o : HO} (i : Same B H) : Same (upd B p o) (upd H p o) := fun b x e => by
  by_cases hb : b = p
  · subst hb; rw [upd_same] at e; rw [upd_same]; exact e
  · rw [upd_ne hb] at e; rw [upd_ne hb]; exact i _ _ e
theorem same_mut {B H : Hp} {p : Addr} {o : HO} (i : Same B H) (h : B p = none) : Same B (upd H p o) := fun b x e => by
  rw [upd_ne (ne_of_none e h)]
  exact i _ _ e
theorem Stp.new {B H : Hp} {p : Addr} {o : HO} (i : Same B H) (h : H p = none) : Stp B H (upd B p o) (upd H p o) :=
  ⟨same_new (i.free h), .of (same_new h), same_upd i, fun a n m => by
    have : a ≠ p := fun z => m (by rw [z]; exact h)
    rw [upd_ne this]; exact n⟩
/-- a new object that the base does not take up -/
theorem Stp.skip {B H : Hp} {p : Addr} {o : HO} (i : Same B H) (h : H p = none) : Stp B H B (upd H p o) :=
  ⟨Same.refl _, .of (same_new h), same_mut i (i.free h), fun a n _ => n⟩
/-- a new object, not in the base at the start, changes -/
theorem Stp.mut {B H B' H' : Hp} {p : Addr} {o : HO} {ys : List V} (x : Stp B H B' H') (h : H p = none) (hb : B' p = none) (hl : H' p = some (.lst ys)) : Stp B H B' (upd H' p o) :=
  ⟨x.b, x.h.mutL h hl, same_mut x.i hb, x.f⟩
/-- .. and is taken up -/
theorem Stp.take {B H B' H' : Hp} {p : Addr} {o : HO} (x : Stp B H B' H') (h : H p = none) (hb : B' p = none) (hh : H' p = some o) : Stp B H (upd B' p o) H' :=
  ⟨fun a u e => by
    have : a ≠ p := fun z => by rw [z, (x.i.free (l := p) |> fun _ => (show B p = none from by
      cases q : B p with
      | none => rfl
      | some w => have := x.b _ _ q; rw [hb] at this; cases this))] at e; cases e
    rw [upd_ne this]; exact x.b _ _ e, x.h, fun a u e => by
    by_cases z : a = p
    · subst z; rw [upd_same] at e; cases e; exact hh
    · rw [upd_ne z] at e; exact x.i _ _ e, fun a n m => by
    have : a ≠ p := fun z => m (by rw [z]; exact h)
    rw [upd_ne this]; exact x.f a n m⟩

theorem Stp.tb {B H B' H' : Hp} (x : Stp B H B' H') (T : Tb B H) : Tb B' H' := ⟨x.f PL T.b T.ne, x.h.t T.t⟩
/-! ### slots -/
inductive Sl where
  | no
  | im (d : PyData)
  | ow (ds : List PyData)
abbrev Rho := List Sl

structure EnvR (K : PySem.W.Frag) (B H : Hp) (s : L2.St) (r : Rho) : Prop where
  i : Same B H
  tb : Tb B H
  len : s.length = r.length
  im : ∀ {n : Nat} {d : PyData}, r[n]? = some (.im d) → ∃ v, s[n]? = some (some v) ∧ Dp K B v d
  ow : ∀ {n : Nat} {ds : List PyData}, r[n]? = some (.ow ds) → ∃ l xs, s[n]? = some (some (.ref l)) ∧ H l = some (.lst xs) ∧ DpAll K B xs ds ∧ B l = none
  ne : ∀ {n m : Nat} {ds es : List PyData} {l : Addr}, r[n]? = some (.ow ds) → r[m]? = some (.ow es) → s[n]? = some (some (.ref l)) → s[m]? = some (some (.ref l)) → n = m
section
variable {K : PySem.W.Frag} {B H B' H' : Hp} {s : L2.St} {r : Rho}
theorem EnvR.mono (e : EnvR K B H s r) (x : Stp B H B' H') : EnvR K B' H' s r where
  i := x.i
  tb := x.tb e.tb
  len := e.len
  im := fun h => let ⟨v, h1, h2⟩ := e.im h; ⟨v, h1, dp_mono x.b _ _ h2⟩
  ow := fun h => let ⟨l, xs, h1, h2, h3, h4⟩ := e.ow h; ⟨l, xs, h1, x.h _ _ h2, dpa_mono x.b _ _ h3, x.f _ h4 (by rw [h2]; exact fun z => nomatch z)⟩
  ne := e.ne
theorem get_set {α : Type} {l : List α} {n m : Nat} {a b : α} (h : (l.set n a)[m]? = some b) : (m = n ∧ b = a ∧ n < l.length) ∨ (m ≠ n ∧ l[m]? = some b) := by
  rw [List.getElem?_set] at h
  split at h
  · rename_i e
    split at h
    · rename_i z
      cases h
      exact .inl ⟨e.symm, rfl, z⟩
    · cases h
  · rename_i e
    exact .inr ⟨fun z => e z.symm, h⟩
theorem EnvR.set_im (e : EnvR K B H s r) {n : Nat} {v : V} {d : PyData} (h : Dp K B v d) : EnvR K B H (s.set n (some v)) (r.set n (.im d)) where
  i := e.i
  tb := e.tb
  len := by rw [List.length_set, List.length_set, e.len]
  im := fun {m d'} h' => by
    rcases get_set h' with ⟨rfl, h1, h2⟩ | ⟨h1, h2⟩
    · cases h1
      exact ⟨v, by rw [List.getElem?_set_self (by rw [e.len]; exact h2)], h⟩
    · obtain ⟨w, q1, q2⟩ := e.im h2
      exact ⟨w, by rw [List.getElem?_set_ne (fun z => h1 z.symm)]; exact q1, q2⟩
  ow := fun {m ds} h' => by
    rcases get_set h' with ⟨rfl, h1, h2⟩ | ⟨h1, h2⟩
    · cases h1
    · obtain ⟨l, xs, q1, q2⟩ := e.ow h2
      exact ⟨l, xs, by rw [List.getElem?_set_ne (fun z => h1 z.symm)]; exact q1, q2⟩
  ne := fun {n1 n2 ds es l} h1 h2 h3 h4 => by
    rcases get_set h1 with ⟨_, z, _⟩ | ⟨a1, a2⟩
    · cases z
    rcases get_set h2 with ⟨_, z, _⟩ | ⟨b1, b2⟩
    · cases z
    rw [List.getElem?_set_ne (fun z => a1 z.symm)] at h3
    rw [List.getElem?_set_ne (fun z => b1 z.symm)] at h4
    exact e.ne a2 b2 h3 h4
theorem EnvR.set_no (e : EnvR K B H s r) {n : Nat} {o : Option V} : EnvR K B H (s.set n o) (r.set n .no) where
  i := e.i
  tb := e.tb
  len := by rw [List.length_set, List.length_set, e.len]
  im := fun {m d'} h' => by
    rcases get_set h' with ⟨rfl, h1, h2⟩ | ⟨h1, h2⟩
    · cases h1
    · obtain ⟨w, q1, q2⟩ := e.im h2
      exact ⟨w, by rw [List.getElem?_set_ne (fun z => h1 z.symm)]; exact q1, q2⟩
  ow := fun {m ds} h' => by
    rcases get_set h' with ⟨rfl, h1, h2⟩ | ⟨h1, h2⟩
    · cases h1
    · obtain ⟨l, xs, q1, q2⟩ := e.ow h2
      exact ⟨l, xs, by rw [List.getElem?_set_ne (fun z => h1 z.symm)]; exact q1, q2⟩
  ne := fun {n1 n2 ds es l} h1 h2 h3 h4 => by
    rcases get_set h1 with ⟨_, z, _⟩ | ⟨a1, a2⟩
    · cases z
    rcases get_set h2 with ⟨_, z, _⟩ | ⟨b1, b2⟩
    · cases z
    rw [List.getElem?_set_ne (fun z => a1 z.symm)] at h3
    rw [List.getElem?_set_ne (fun z => b1 z.symm)] at h4
    exact e.ne a2 b2 h3 h4
/-- a new own list, at l -/
theorem EnvR.set_ow (e : EnvR K B H s r) (x : Stp B H B' H') {n : Nat} {l : Addr} {xs : List V} {ds : List PyData} (hn : H l = none) (hl : H' l = some (.lst xs)) (hb : B' l = none) (hd : DpAll K B' xs ds) :
    EnvR K B' H' (s.set n (some (.ref l))) (r.set n (.ow ds)) where
  i := x.i
  tb := x.tb e.tb
  len := by rw [List.length_set, List.length_set, e.len]
  im := fun {m d'} h' => by
    rcases get_set h' with ⟨rfl, h1, h2⟩ | ⟨h1, h2⟩
    · cases h1
    · obtain ⟨w, q1, q2⟩ := e.im h2
      exact ⟨w, by rw [List.getElem?_set_ne (fun z => h1 z.symm)]; exact q1, dp_mono x.b _ _ q2⟩
  ow := fun {m es} h' => by
    rcases get_set h' with ⟨rfl, h1, h2⟩ | ⟨h1, h2⟩
    · cases h1
      exact ⟨l, xs, by rw [List.getElem?_set_self (by rw [e.len]; exact h2)], hl, hd, hb⟩
    · obtain ⟨l', ys, q1, q2⟩ := (e.mono x).ow h2
      exact ⟨l', ys, by rw [List.getElem?_set_ne (fun z => h1 z.symm)]; exact q1, q2⟩
  ne := fun {n1 n2 ds1 ds2 l'} h1 h2 h3 h4 => by
    rcases get_set h1 with ⟨rfl, z, a2⟩ | ⟨a1, a2⟩
    · rcases get_set h2 with ⟨rfl, z2, b2⟩ | ⟨b1, b2⟩
      · rfl
      · rw [List.getElem?_set_self (by rw [e.len]; exact a2)] at h3
        cases h3
        rw [List.getElem?_set_ne (fun z => b1 z.symm)] at h4
        obtain ⟨l2, ys, q1, q2, _⟩ := e.ow b2
        rw [h4] at q1; cases q1
        rw [hn] at q2; cases q2
    · rcases get_set h2 with ⟨rfl, z2, b2⟩ | ⟨b1, b2⟩
      · rw [List.getElem?_set_self (by rw [e.len]; exact b2)] at h4
        cases h4
        rw [List.getElem?_set_ne (fun z => a1 z.symm)] at h3
        obtain ⟨l2, ys, q1, q2, _⟩ := e.ow a2
        rw [h3] at q1; cases q1
        rw [hn] at q2; cases q2
      · rw [List.getElem?_set_ne (fun z => a1 z.symm)] at h3
        rw [List.getElem?_set_ne (fun z => b1 z.symm)] at h4
        exact e.ne a2 b2 h3 h4
/-- an own list is changed -/
theorem EnvR.mut (e : EnvR K B H s r) {n : Nat} {l : Addr} {xs : List V} {ds ds' : List PyData} (hr : r[n]? = some (.ow ds)) (hs : s[n]? = some (some (.ref l))) (hd : DpAll K B xs ds') :
    EnvR K B (upd H l (.lst xs)) s (r.set n (.ow ds')) where
  tb := by
    obtain ⟨l', ys, q1, q2, _, q4⟩ := e.ow hr
    rw [hs] at q1; cases q1
    exact e.tb.mutL q2
  i := by
    obtain ⟨l', ys, q1, _, _, q4⟩ := e.ow hr
    rw [hs] at q1; cases q1
    exact same_mut e.i q4
  len := by rw [List.length_set, e.len]
  im := fun {m d'} h' => by
    rcases get_set h' with ⟨rfl, h1, h2⟩ | ⟨h1, h2⟩
    · cases h1
    · exact e.im h2
  ow := fun {m es} h' => by
    obtain ⟨l0, ys0, q1, _, _, q4⟩ := e.ow hr
    rw [hs] at q1; cases q1
    rcases get_set h' with ⟨rfl, h1, h2⟩ | ⟨h1, h2⟩
    · cases h1
      exact ⟨l, xs, hs, upd_same, hd, q4⟩
    · obtain ⟨l', ys, p1, p2, p3, p4⟩ := e.ow h2
      have : l' ≠ l := fun z => by
        subst z
        exact h1 (e.ne h2 hr p1 hs)
      exact ⟨l', ys, p1, by rw [upd_ne this]; exact p2, p3, p4⟩
  ne := fun {n1 n2 ds1 ds2 l'} h1 h2 h3 h4 => by
    rcases get_set h1 with ⟨rfl, z, a2⟩ | ⟨a1, a2⟩
    · rcases get_set h2 with ⟨rfl, z2, b2⟩ | ⟨b1, b2⟩
      · rfl
      · exact e.ne hr b2 h3 h4
    · rcases get_set h2 with ⟨rfl, z2, b2⟩ | ⟨b1, b2⟩
      · exact e.ne a2 hr h3 h4
      · exact e.ne a2 b2 h3 h4
end
end Od

namespace Od
open PySem PySem.Spec PyProof.Rows L2

/-! ### what evaluates to what -/
abbrev Res := V → Hp → Hp → Prop
def Ev (K : PySem.W.Frag) (te : TE) (r : Rho) (R : Res) : Prop := ∀ B H s, EnvR K B H s r → ∀ Q : VK, (∀ v B' H', Stp B H B' H' → R v B' H' → Q v H') → te s H Q
def EvT (K : PySem.W.Frag) (tt : TT) (r : Rho) (b : Bool) : Prop := ∀ B H s, EnvR K B H s r → ∀ Q : Bool → Hp → Prop, (∀ B' H', Stp B H B' H' → Q b H') → tt s H Q
def EvA (K : PySem.W.Frag) (ta : TA) (r : Rho) (ds : List PyData) : Prop := ∀ B H s, EnvR K B H s r → ∀ Q : List V → Hp → Prop, (∀ vs B' H', Stp B H B' H' → DpAll K B' vs ds → Q vs H') → ta s H Q
/-- data that the base knows; data of the heap; a list or tuple; a list; a tuple -/
def rD (K : PySem.W.Frag) (d : PyData) : Res := fun v B _ => Dp K B v d
def rH (K : PySem.W.Frag) (d : PyData) : Res := fun v _ H => Dp K H v d
def rQ (K : PySem.W.Frag) (ds : List PyData) : Res := fun v B H => ∃ a xs, v = .ref a ∧ (SqL K H a xs ∨ SqT K H a xs) ∧ DpAll K B xs ds
def rL (K : PySem.W.Frag) (ds : List PyData) : Res := fun v B H => ∃ a xs, v = .ref a ∧ SqL K H a xs ∧ DpAll K B xs ds
/-- a list that is tracked -/
def rM (K : PySem.W.Frag) (ds : List PyData) : Res := fun v B H => ∃ a xs, v = .ref a ∧ H a = some (.lst xs) ∧ DpAll K B xs ds
abbrev EvD (K : PySem.W.Frag) (te : TE) (r : Rho) (d : PyData) : Prop := Ev K te r (rD K d)
abbrev EvH (K : PySem.W.Frag) (te : TE) (r : Rho) (d : PyData) : Prop := Ev K te r (rH K d)
abbrev EvQ (K : PySem.W.Frag) (te : TE) (r : Rho) (ds : List PyData) : Prop := Ev K te r (rQ K ds)
abbrev EvL (K : PySem.W.Frag) (te : TE) (r : Rho) (ds : List PyData) : Prop := Ev K te r (rL K ds)
abbrev EvM (K : PySem.W.Frag) (te : TE) (r : Rho) (ds : List PyData) : Prop := Ev K te r (rM K ds)
/-- a NEW list -/
def EvN (K : PySem.W.Frag) (te : TE) (r : Rho) (ds : List PyData) : Prop := ∀ B H s, EnvR K B H s r → ∀ Q : VK,
  (∀ l xs B' H', Stp B H B' H' → H l = none → H' l = some (.lst xs) → B' l = none → DpAll K B' xs ds → Q (.ref l) H') → te s H Q
def Mono (R : Res) : Prop := ∀ v B H B' H', Stp B H B' H' → R v B H → R v B' H'
section
variable {K : PySem.W.Frag} {r : Rho} {d e f : PyData} {ds es : List PyData} {te ta tb tc : TE} {R Ra Rb Rc : Res}
theorem mD : Mono (rD K d) := fun _ _ _ _ _ x h => dp_mono x.b _ _ h
theorem mH : Mono (rH K d) := fun _ _ _ _ _ x h => dp_monoG x.h _ _ h
theorem mQ : Mono (rQ K ds) := fun _ _ _ _ _ x ⟨a, xs, h1, h2, h3⟩ => ⟨a, xs, h1, h2.imp (fun z => x.h.seq z) (fun z => sqt_monoG x.h z), dpa_mono x.b _ _ h3⟩
theorem mL : Mono (rL K ds) := fun _ _ _ _ _ x ⟨a, xs, h1, h2, h3⟩ => ⟨a, xs, h1, x.h.seq h2, dpa_mono x.b _ _ h3⟩
theorem mM : Mono (rM K ds) := fun _ _ _ _ _ x ⟨a, xs, h1, h2, h3⟩ => ⟨a, xs, h1, x.h _ _ h2, dpa_mono x.b _ _ h3⟩
theorem Ev.imp (h : Ev K te r R) (q : ∀ v B H, Same B H → R v B H → Rc v B H) : Ev K te r Rc := fun B H s E Q k => h B H s E Q fun v B' H' x y => k v B' H' x (q v B' H' x.i y)
theorem EvD.toH (h : EvD K te r d) : EvH K te r d := h.imp fun _ _ _ i x => dp_mono i _ _ x
theorem EvD.toL (h : EvD K te r (.list ds)) : EvL K te r ds := h.imp fun v B H i x => by
  cases x with
  | lst hs ha => exact ⟨_, _, rfl, i.seq hs, ha⟩
theorem EvL.toQ (h : EvL K te r ds) : EvQ K te r ds := h.imp fun v B H i ⟨a, xs, h1, h2, h3⟩ => ⟨a, xs, h1, .inl h2, h3⟩
theorem EvL.toH (h : EvL K te r ds) : EvH K te r (.list ds) := h.imp fun v B H i ⟨a, xs, h1, h2, h3⟩ => by
  subst h1
  exact .lst h2 (dpa_mono i _ _ h3)
theorem EvD.toQ (h : EvD K te r (.tuple ds)) : EvQ K te r ds := h.imp fun v B H i x => by
  cases x with
  | tup hs ha => exact ⟨_, _, rfl, .inr (sqt_mono i hs), ha⟩
theorem EvN.toM (h : EvN K te r ds) : EvM K te r ds := fun B H s E Q k => h B H s E Q fun l xs B' H' x h1 h2 h3 h4 => k _ _ _ x ⟨l, xs, rfl, h2, h4⟩
theorem EvM.toL (h : EvM K te r ds) : EvL K te r ds := h.imp fun v B H i ⟨a, xs, h1, h2, h3⟩ => ⟨a, xs, h1, .of h2, h3⟩
theorem EvN.toD (h : EvN K te r ds) : EvD K te r (.list ds) := fun B H s E Q k => h B H s E Q fun l xs B' H' x h1 h2 h3 h4 => by
  have x' := x.take h1 h3 h2
  exact k _ _ _ x' (.lst (.of upd_same) (dpa_mono (same_new h3) _ _ h4))
theorem ev_im {n : Nat} (h : r[n]? = some (.im d)) : EvD K (tVar n) r d := fun B H s E Q k => by
  obtain ⟨v, h1, h2⟩ := E.im h
  exact ⟨v, h1, k v B H (.refl E.i) h2⟩
theorem ev_ow {n : Nat} (h : r[n]? = some (.ow ds)) : EvM K (tVar n) r ds := fun B H s E Q k => by
  obtain ⟨l, xs, h1, h2, h3, h4⟩ := E.ow h
  exact ⟨_, h1, k _ B H (.refl E.i) ⟨l, xs, rfl, h2, h3⟩⟩
theorem ev_int {i : Int} : EvD K (tC (.int i)) r (.int i) := fun B H s E Q k => k _ B H (.refl E.i) (.int i)
theorem ev_bl {b : Bool} : EvD K (tC (.bl b)) r (.bool b) := fun B H s E Q k => k _ B H (.refl E.i) (.bl b)
theorem ev_non : EvD K (tC .non) r .none := fun B H s E Q k => k _ B H (.refl E.i) .non
theorem ev_str {x : Str} : EvD K (tC (.str x)) r (.str x) := fun B H s E Q k => k _ B H (.refl E.i) (.str x)
/-- two operands, one operation on values -/
theorem ev_op {o : R2} (ma : Mono Ra) (ha : Ev K ta r Ra) (hb : Ev K tb r Rb) (ho : ∀ x y B H, Same B H → Ra x B H → Rb y B H → ∀ Q : VK, (∀ v B' H', Stp B H B' H' → Rc v B' H' → Q v H') → o x y H Q) : Ev K (tOp o ta tb) r Rc :=
  fun B H s E Q k => ha B H s E _ fun x B1 H1 x1 h1 => hb B1 H1 s (E.mono x1) _ fun y B2 H2 x2 h2 => ho x y B2 H2 x2.i (ma _ _ _ _ _ x2 h1) h2 Q fun v B3 H3 x3 h3 => k v B3 H3 ((x1.trans x2).trans x3) h3
/-- .. that leaves the heap as it is, giving flat data -/
theorem ev_flat {o : R2} (ma : Mono Ra) (ha : Ev K ta r Ra) (hb : Ev K tb r Rb) (ho : ∀ x y B H, Same B H → Ra x B H → Rb y B H → ∀ Q : VK, (∀ v, Dp K B v d → Q v H) → o x y H Q) : EvD K (tOp o ta tb) r d :=
  ev_op ma ha hb fun x y B H i h1 h2 Q k => ho x y B H i h1 h2 Q fun v h => k v B H (.refl i) h
theorem ev_un {o : V → Hp → VK → Prop} (ha : Ev K ta r Ra) (ho : ∀ x B H, Same B H → Ra x B H → ∀ Q : VK, (∀ v, Dp K B v d → Q v H) → o x H Q) : EvD K (tUn o ta) r d :=
  fun B H s E Q k => ha B H s E _ fun x B1 H1 x1 h1 => ho x B1 H1 x1.i h1 Q fun v h => k v B1 H1 x1 h
theorem ev_I0 {g : Int → Int → V} {i j : Int} (ha : EvD K ta r (.int i)) (hb : EvD K tb r (.int j)) (hg : ∀ B, Dp K B (g i j) d) : EvD K (tOp (rI0 g) ta tb) r d :=
  ev_flat mD ha hb fun x y B H _ h1 h2 Q k => by
    cases h1; cases h2
    exact ⟨i, j, rfl, rfl, k _ (hg B)⟩
theorem ev_I {C : Int → Int → Prop} {g : Int → Int → V} {i j : Int} (ha : EvD K ta r (.int i)) (hb : EvD K tb r (.int j)) (hc : C i j) (hg : ∀ B, Dp K B (g i j) d) : EvD K (tOp (rI C g) ta tb) r d :=
  ev_flat mD ha hb fun x y B H _ h1 h2 Q k => by
    cases h1; cases h2
    exact ⟨i, j, rfl, rfl, hc, k _ (hg B)⟩
/-! #### calls of built-ins, displays -/
theorem ea_nil : EvA K tNil r [] := fun B H s E Q k => k _ B H (.refl E.i) .nil
theorem ea_cons {t : TA} (ha : EvD K ta r d) (ht : EvA K t r ds) : EvA K (tCons ta t) r (d :: ds) := fun B H s E Q k =>
  ha B H s E _ fun x B1 H1 x1 h1 => ht B1 H1 s (E.mono x1) _ fun vs B2 H2 x2 h2 => k _ B2 H2 (x1.trans x2) (.cons (dp_mono x2.b _ _ h1) h2)
theorem ev_cb1 {o : List V → Hp → VK → Prop} (ha : Ev K ta r Ra) (ho : ∀ x B H, Same B H → Ra x B H → ∀ Q : VK, (∀ v B' H', Stp B H B' H' → Rc v B' H' → Q v H') → o [x] H Q) : Ev K (tCB o (tCons ta tNil)) r Rc :=
  fun B H s E Q k => ha B H s E _ fun x B1 H1 x1 h1 => ho x B1 H1 x1.i h1 Q fun v B2 H2 x2 h2 => k v B2 H2 (x1.trans x2) h2
theorem ev_cb1N {o : List V → Hp → VK → Prop} (ha : Ev K ta r Ra) (ho : ∀ x B H, Same B H → Ra x B H → ∀ Q : VK, (∀ l xs, H l = none → DpAll K B xs ds → Q (.ref l) (upd H l (.lst xs))) → o [x] H Q) : EvN K (tCB o (tCons ta tNil)) r ds :=
  fun B H s E Q k => ha B H s E _ fun x B1 H1 x1 h1 => ho x B1 H1 x1.i h1 Q fun l xs hl hd => k l xs B1 _ (x1.trans (.skip x1.i hl)) (x1.h.free hl) upd_same (x1.i.free hl) hd
theorem ev_cb2 {o : List V → Hp → VK → Prop} (ma : Mono Ra) (ha : Ev K ta r Ra) (hb : Ev K tb r Rb) (ho : ∀ x y B H, Same B H → Ra x B H → Rb y B H → ∀ Q : VK, (∀ v B' H', Stp B H B' H' → Rc v B' H' → Q v H') → o [x, y] H Q) : Ev K (tCB o (tCons ta (tCons tb tNil))) r Rc :=
  fun B H s E Q k => ha B H s E _ fun x B1 H1 x1 h1 => hb B1 H1 s (E.mono x1) _ fun y B2 H2 x2 h2 => ho x y B2 H2 x2.i (ma _ _ _ _ _ x2 h1) h2 Q fun v B3 H3 x3 h3 => k v B3 H3 ((x1.trans x2).trans x3) h3
theorem ev_len (ha : EvQ K ta r ds) : EvD K (tCB (fun xs H Q => ∃ p ys, xs = [V.ref p] ∧ (SqL K H p ys ∨ SqT K H p ys) ∧ Q (V.int ys.length) H) (tCons ta tNil)) r (.int ds.length) :=
  ev_cb1 ha fun x B H i ⟨a, xs, h1, h2, h3⟩ Q k => ⟨a, xs, by rw [h1], h2, k _ B H (.refl i) (by rw [dpa_len h3]; exact .int _)⟩
theorem ev_tupleL (ha : EvL K ta r ds) : EvD K (tCB (fun xs H Q => ∃ p ys, xs = [V.ref p] ∧ ((SqL K H p ys ∧ ∀ l, H l = none → Q (V.ref l) (upd H l (.tup ys))) ∨ (SqT K H p ys ∧ Q (V.ref p) H))) (tCons ta tNil)) r (.tuple ds) :=
  ev_cb1 ha fun x B H i ⟨a, xs, h1, h2, h3⟩ Q k => ⟨a, xs, by rw [h1], .inl ⟨h2, fun l hl => k _ _ _ (.new i hl) (.tup (.of upd_same) (dpa_mono (same_new (i.free hl)) _ _ h3))⟩⟩
theorem ev_list (ha : EvQ K ta r ds) : EvN K (tCB (fun xs H Q => ∃ p ys, xs = [V.ref p] ∧ (SqL K H p ys ∨ SqT K H p ys) ∧ ∀ l, H l = none → Q (V.ref l) (upd H l (.lst ys))) (tCons ta tNil)) r ds :=
  ev_cb1N ha fun x B H i ⟨a, xs, h1, h2, h3⟩ Q k => ⟨a, xs, by rw [h1], h2, fun l hl => k l xs hl h3⟩
theorem ev_tup {t : TA} (ht : EvA K t r ds) (hl : ds.length ≤ sizeLine) : EvD K (tTup t) r (.tuple ds) := fun B H s E Q k =>
  ht B H s E _ fun vs B1 H1 x1 h1 => ⟨by rw [dpa_len h1]; exact hl, fun p hp => k _ _ _ (x1.trans (.new x1.i hp)) (.tup (.of upd_same) (dpa_mono (same_new (x1.i.free hp)) _ _ h1))⟩
theorem ev_lst {t : TA} (ht : EvA K t r ds) (hl : ds.length ≤ sizeLine) : EvN K (tLst t) r ds := fun B H s E Q k =>
  ht B H s E _ fun vs B1 H1 x1 h1 => ⟨by rw [dpa_len h1]; exact hl, fun p hp => k p vs B1 _ (x1.trans (.skip x1.i hp)) (x1.h.free hp) upd_same (x1.i.free hp) h1⟩
theorem ev_min {ns : List Int} {m : Int} (ha : EvL K ta r (ns.map .int)) (hm : m ∈ ns) (hle : ∀ y ∈ ns, m ≤ y) : EvD K (tCB (rMin K) (tCons ta tNil)) r (.int m) :=
  ev_cb1 ha fun x B H i ⟨a, xs, h1, h2, h3⟩ Q k => ⟨a, ns, by rw [h1], by rw [← dpa_ints_inv h3]; exact h2, List.length_pos_of_mem hm, fun m' q1 q2 => by
    have : m' = m := Int.le_antisymm (q2 m hm) (hle m' q1)
    rw [this]
    exact k _ B H (.refl i) (.int _)⟩
theorem ev_all {bs : List Bool} (ha : EvL K ta r (bs.map .bool)) : EvD K (tCB (rAll K) (tCons ta tNil)) r (.bool (bs.all id)) :=
  ev_cb1 ha fun x B H i ⟨a, xs, h1, h2, h3⟩ Q k => ⟨a, bs, by rw [h1], by rw [← dpa_bls_inv h3]; exact h2, k _ B H (.refl i) (.bl _)⟩
theorem ev_min2 {i j : Int} (ha : EvD K ta r (.int i)) (hb : EvD K tb r (.int j)) : EvD K (tCB (fun xs H Q => ∃ i j, xs = [V.int i, V.int j] ∧ Q (V.int (if j < i then j else i)) H) (tCons ta (tCons tb tNil))) r (.int (if j < i then j else i)) :=
  ev_cb2 mD ha hb fun x y B H z h1 h2 Q k => by
    cases h1; cases h2
    exact ⟨i, j, rfl, k _ B H (.refl z) (.int _)⟩
theorem ev_max2 {i j : Int} (ha : EvD K ta r (.int i)) (hb : EvD K tb r (.int j)) : EvD K (tCB (fun xs H Q => ∃ i j, xs = [V.int i, V.int j] ∧ Q (V.int (if j > i then j else i)) H) (tCons ta (tCons tb tNil))) r (.int (if j > i then j else i)) :=
  ev_cb2 mD ha hb fun x y B H z h1 h2 Q k => by
    cases h1; cases h2
    exact ⟨i, j, rfl, k _ B H (.refl z) (.int _)⟩
theorem ev_int1b {b : Bool} (ha : EvD K ta r (.bool b)) : EvD K (tCB (fun xs H Q => (∃ i, xs = [V.int i] ∧ Q (V.int i) H) ∨ ∃ k, xs = [V.bl k] ∧ Q (V.int (if k then 1 else 0)) H) (tCons ta tNil)) r (.int (if b then 1 else 0)) :=
  ev_cb1 ha fun x B H i h1 Q k => by
    cases h1
    exact .inr ⟨b, rfl, k _ B H (.refl i) (.int _)⟩
/-! #### operations -/
theorem ev_eq (ha : EvH K ta r d) (hb : EvH K tb r e) (sd : SeqAt.shaped d = true) (se : SeqAt.shaped e = true) : EvD K (tOp (rEqD K) ta tb) r (.bool (PyData.eqv d e)) :=
  ev_flat mH ha hb fun x y B H i h1 h2 Q k => ⟨d, e, h1, h2, sd, se, k _ (.bl _)⟩
theorem ev_ne (ha : EvH K ta r d) (hb : EvH K tb r e) (sd : SeqAt.shaped d = true) (se : SeqAt.shaped e = true) : EvD K (tOp (rNeD K) ta tb) r (.bool (!PyData.eqv d e)) :=
  ev_flat mH ha hb fun x y B H i h1 h2 Q k => ⟨d, e, h1, h2, sd, se, k _ (.bl _)⟩
theorem inV_ints {i : Int} : ∀ ns : List Int, inV (.int i) (ns.map V.int) = decide (i ∈ ns)
  | [] => by simp [inV]
  | n :: ns => by
    have ih := inV_ints (i := i) ns
    unfold inV at ih ⊢
    rw [List.map_cons, List.any_cons, ih]
    have : eqV (V.int n) (V.int i) = decide (i = n) := by
      by_cases h : i = n
      · subst h; simp [eqV]
      · have h2 : n ≠ i := fun z => h z.symm
        simp [eqV, h, h2]
    rw [this]
    by_cases h : i = n <;> simp [h]
theorem flat_ints : ∀ ns : List Int, (ns.map V.int).all flatV = true
  | [] => rfl
  | n :: ns => by rw [List.map_cons, List.all_cons, flat_ints ns]; rfl
theorem ev_in {i : Int} {ns : List Int} (ha : EvD K ta r (.int i)) (hb : EvQ K tb r (ns.map .int)) : EvD K (tOp (rIn K false) ta tb) r (.bool (decide (i ∈ ns))) :=
  ev_flat mD ha hb fun x y B H z h1 ⟨a, xs, q1, q2, q3⟩ Q k => by
    cases h1
    have e := dpa_ints_inv q3
    subst e
    exact ⟨a, _, q1, q2, rfl, flat_ints ns, k _ (by rw [inV_ints]; exact .bl _)⟩
theorem ev_nin {i : Int} {ns : List Int} (ha : EvD K ta r (.int i)) (hb : EvQ K tb r (ns.map .int)) : EvD K (tOp (rIn K true) ta tb) r (.bool (!decide (i ∈ ns))) :=
  ev_flat mD ha hb fun x y B H z h1 ⟨a, xs, q1, q2, q3⟩ Q k => by
    cases h1
    have e := dpa_ints_inv q3
    subst e
    exact ⟨a, _, q1, q2, rfl, flat_ints ns, k _ (by rw [inV_ints]; exact .bl _)⟩
theorem dpa_at {H : Hp} {xs : List V} {i : Int} (h : DpAll K H xs ds) (ha : atI ds i = some d) : ∃ v, atI xs i = some v ∧ Dp K H v d := by
  unfold atI at ha ⊢
  rw [dpa_len h]
  cases q : ixN ds.length i with
  | none => rw [q] at ha; cases ha
  | some j =>
    rw [q] at ha
    exact dpa_get h ha
theorem ev_ixL {i : Int} (ha : EvL K ta r ds) (hb : EvD K tb r (.int i)) (hi : atI ds i = some d) : EvD K (tOp (rIxL K) ta tb) r d :=
  ev_flat mL ha hb fun x y B H z ⟨a, xs, q1, q2, q3⟩ h2 Q k => by
    cases h2
    obtain ⟨v, h3, h4⟩ := dpa_at q3 hi
    exact ⟨a, xs, i, v, q1, rfl, q2, h3, k _ h4⟩
theorem ev_ixT {i : Int} (ha : EvD K ta r (.tuple ds)) (hb : EvD K tb r (.int i)) (hi : atI ds i = some d) : EvD K (tOp (rIxT K) ta tb) r d :=
  ev_flat mD ha hb fun x y B H z h1 h2 Q k => by
    cases h2
    cases h1 with
    | tup q2 q3 =>
      obtain ⟨v, h3, h4⟩ := dpa_at q3 hi
      exact ⟨_, _, i, v, rfl, rfl, sqt_mono z q2, h3, k _ h4⟩
theorem dpa_nil_iff {H : Hp} {xs : List V} (h : DpAll K H xs ds) : xs = [] ↔ ds = [] := by
  cases h with
  | nil => exact ⟨fun _ => rfl, fun _ => rfl⟩
  | cons _ _ => exact ⟨fun z => (nomatch z), fun z => (nomatch z)⟩
theorem ev_catT (ha : EvD K ta r (.tuple ds)) (hb : EvD K tb r (.tuple es)) (hl : ds.length + es.length ≤ sizeLine) : EvD K (tOp (rCatA K) ta tb) r (.tuple (ds ++ es)) :=
  ev_op mD ha hb fun x y B H z h1 h2 Q k => by
    cases h1 with
    | tup q2 q3 =>
      cases h2 with
      | tup p2 p3 =>
        refine ⟨_, _, _, _, rfl, rfl, sqt_mono z q2, sqt_mono z p2, by rw [dpa_len q3, dpa_len p3]; exact hl, fun e => ?_, fun _ e => ?_, fun _ _ p hp => ?_⟩
        · refine k _ B H (.refl z) ?_
          rw [(dpa_nil_iff q3).mp e, List.nil_append]
          exact .tup p2 p3
        · refine k _ B H (.refl z) ?_
          rw [(dpa_nil_iff p3).mp e, List.append_nil]
          exact .tup q2 q3
        · exact k _ _ _ (.new z hp) (.tup (.of upd_same) (dpa_mono (same_new (z.free hp)) _ _ (dpa_app q3 p3)))
theorem ev_catL (ha : EvM K ta r ds) (hb : EvM K tb r es) (hl : ds.length + es.length ≤ sizeLine) : EvN K (tOp rCat ta tb) r (ds ++ es) := fun B H s E Q k =>
  ha B H s E _ fun x B1 H1 x1 h1 => hb B1 H1 s (E.mono x1) _ fun y B2 H2 x2 h2 => by
    obtain ⟨a, xs, rfl, q2, q3⟩ := mM _ _ _ _ _ x2 h1
    obtain ⟨b, ys, rfl, p2, p3⟩ := h2
    exact ⟨a, b, xs, ys, rfl, rfl, q2, p2, by rw [dpa_len q3, dpa_len p3]; exact hl, fun p hp => k p _ B2 _ ((x1.trans x2).trans (.skip x2.i hp)) ((x1.trans x2).h.free hp) upd_same (x2.i.free hp) (dpa_app q3 p3)⟩
/-- a part of a list, as cutV takes it -/
def cutD (xs : List PyData) (lo hi : Option Int) : List PyData := (xs.drop (HT.sIx xs.length 0 lo)).take (HT.sIx xs.length xs.length hi - HT.sIx xs.length 0 lo)
theorem dpa_cut {H : Hp} {xs : List V} {lo hi : Option Int} (h : DpAll K H xs ds) : DpAll K H (cutV xs lo hi) (cutD ds lo hi) := by
  unfold cutV cutD
  rw [dpa_len h]
  exact dpa_take _ (dpa_drop _ h)
/-- a slice's part -/
def EvO (K : PySem.W.Frag) (to : TO) (r : Rho) (o : Option Int) : Prop := ∀ B H s, EnvR K B H s r → ∀ Q : Option Int → Hp → Prop, (∀ B' H', Stp B H B' H' → Q o H') → to s H Q
theorem eo_none : EvO K tNoPart r none := fun B H s E Q k => k B H (.refl E.i)
theorem eo_some {i : Int} (h : EvD K te r (.int i)) : EvO K (tPart te) r (some i) := fun B H s E Q k => h B H s E _ fun v B1 H1 x1 h1 => by
  cases h1
  exact ⟨i, rfl, k B1 H1 x1⟩
theorem ev_slT {tl th : TO} {lo hi : Option Int} (ha : EvD K ta r (.tuple ds)) (hl : EvO K tl r lo) (hh : EvO K th r hi) : EvD K (tSl (rSlA K) ta tl th) r (.tuple (cutD ds lo hi)) := fun B H s E Q k =>
  ha B H s E _ fun x B1 H1 x1 h1 => hl B1 H1 s (E.mono x1) _ fun B2 H2 x2 => hh B2 H2 s (E.mono (x1.trans x2)) _ fun B3 H3 x3 => by
    have x := (x1.trans x2).trans x3
    cases h1 with
    | tup q2 q3 =>
      have q3' := dpa_mono (x2.trans x3).b _ _ q3
      have q2' := sqt_mono (x2.trans x3).b q2
      refine ⟨_, _, rfl, sqt_mono x3.i q2', fun e => ?_, fun _ p hp => ?_⟩
      · refine k _ B3 H3 x ?_
        have : cutD ds lo hi = ds := by
          unfold cutD
          rw [dpa_len q3] at e
          rw [e.1, e.2, List.drop_zero, Nat.sub_zero, List.take_length]
        rw [this]
        exact .tup q2' q3'
      · exact k _ _ _ (x.trans (.new x3.i hp)) (.tup (.of upd_same) (dpa_mono (same_new (x3.i.free hp)) _ _ (dpa_cut q3')))
theorem ev_slL {tl th : TO} {lo hi : Option Int} (ha : EvL K ta r ds) (hl : EvO K tl r lo) (hh : EvO K th r hi) : EvN K (tSl (rSlL K) ta tl th) r (cutD ds lo hi) := fun B H s E Q k =>
  ha B H s E _ fun x B1 H1 x1 h1 => hl B1 H1 s (E.mono x1) _ fun B2 H2 x2 => hh B2 H2 s (E.mono (x1.trans x2)) _ fun B3 H3 x3 => by
    have x := (x1.trans x2).trans x3
    obtain ⟨a, xs, rfl, q2, q3⟩ := mL _ _ _ _ _ (x2.trans x3) h1
    exact ⟨a, xs, rfl, q2, fun p hp => k p _ B3 _ (x.trans (.skip x3.i hp)) (x.h.free hp) upd_same (x3.i.free hp) (dpa_cut q3)⟩
/-! #### tests -/
theorem et_test {b : Bool} (h : EvD K te r (.bool b)) : EvT K (tTest te) r b := fun B H s E Q k => h B H s E _ fun v B1 H1 x1 h1 => by
  cases h1
  exact ⟨b, rfl, k B1 H1 x1⟩
theorem et_B {b : Bool} (h : EvD K te r (.bool b)) : EvT K (tB te) r b := fun B H s E Q k => h B H s E _ fun v B1 H1 x1 h1 => by
  cases h1
  exact ⟨b, rfl, k B1 H1 x1⟩
theorem et_truth (h : EvQ K te r ds) : EvT K (fun σ H Q => te σ H fun x H' => ∃ k, TruV K x H' k ∧ Q k H') r (!ds.isEmpty) := fun B H s E Q k => h B H s E _ fun v B1 H1 x1 ⟨a, xs, h1, h2, h3⟩ => by
  subst h1
  have e : xs.isEmpty = ds.isEmpty := by cases h3 <;> rfl
  refine ⟨!ds.isEmpty, ?_, k B1 H1 x1⟩
  rcases h2 with h2 | h2
  · exact .inl ⟨xs, h2, by rw [e]⟩
  · exact .inr (.inl ⟨xs, h2, by rw [e]⟩)
theorem et_not {t : TT} {b : Bool} (h : EvT K t r b) : EvT K (tNot t) r (!b) := fun B H s E Q k => h B H s E _ fun B1 H1 x1 => k B1 H1 x1
theorem et_and {t u : TT} {a b : Bool} (h1 : EvT K t r a) (h2 : a = true → EvT K u r b) : EvT K (tAnd t u) r (a && b) := fun B H s E Q k => h1 B H s E _ fun B1 H1 x1 => by
  cases a with
  | true => exact h2 rfl B1 H1 s (E.mono x1) _ fun B2 H2 x2 => k B2 H2 (x1.trans x2)
  | false => exact k B1 H1 x1
theorem et_or {t u : TT} {a b : Bool} (h1 : EvT K t r a) (h2 : a = false → EvT K u r b) : EvT K (tOr t u) r (a || b) := fun B H s E Q k => h1 B H s E _ fun B1 H1 x1 => by
  cases a with
  | true => exact k B1 H1 x1
  | false => exact h2 rfl B1 H1 s (E.mono x1) _ fun B2 H2 x2 => k B2 H2 (x1.trans x2)
theorem et_is {t : TT} {a b : Bool} (h : EvT K t r a) (e : a = b) : EvT K t r b := e ▸ h
theorem ev_is (h : EvD K te r d) (q : d = e) : EvD K te r e := q ▸ h
theorem ev_andV {a b : Bool} (h1 : EvD K ta r (.bool a)) (h2 : a = true → EvD K tb r (.bool b)) : EvD K (tAndV ta tb) r (.bool (a && b)) := fun B H s E Q k => h1 B H s E _ fun v B1 H1 x1 q1 => by
  cases q1
  refine ⟨a, rfl, ?_⟩
  cases a with
  | true => exact h2 rfl B1 H1 s (E.mono x1) _ fun v B2 H2 x2 q2 => k v B2 H2 (x1.trans x2) q2
  | false => exact k _ B1 H1 x1 (.bl false)
theorem ev_orV {a b : Bool} (h1 : EvD K ta r (.bool a)) (h2 : a = false → EvD K tb r (.bool b)) : EvD K (tOrV ta tb) r (.bool (a || b)) := fun B H s E Q k => h1 B H s E _ fun v B1 H1 x1 q1 => by
  cases q1
  refine ⟨a, rfl, ?_⟩
  cases a with
  | true => exact k _ B1 H1 x1 (.bl true)
  | false => exact h2 rfl B1 H1 s (E.mono x1) _ fun v B2 H2 x2 q2 => k v B2 H2 (x1.trans x2) q2
theorem ev_notV {a : Bool} (h1 : EvD K ta r (.bool a)) : EvD K (tNotV ta) r (.bool (!a)) := fun B H s E Q k => h1 B H s E _ fun v B1 H1 x1 q1 => by
  cases q1
  exact ⟨a, rfl, k _ B1 H1 x1 (.bl _)⟩
/-! #### a def's promise: F tells its value -/
def spR (K : PySem.W.Frag) (F : List PyData → PyData → Prop) : Sp := fun vs H Q _ => ∃ B ds d, Same B H ∧ Tb B H ∧ DpAll K B vs ds ∧ F ds d ∧ ∀ v B' H', Stp B H B' H' → Dp K B' v d → Q v H'
theorem ev_call {F : List PyData → PyData → Prop} {X : XK} {t : TA} (ht : EvA K t r ds) (hF : F ds d) : EvD K (tCall (spR K F) [] X t) r d := fun B H s E Q k =>
  ht B H s E _ fun vs B1 H1 x1 h1 => ⟨B1, ds, d, x1.i, x1.tb E.tb, by rw [List.append_nil]; exact h1, hF, fun v B2 H2 x2 h2 => k v B2 H2 (x1.trans x2) h2⟩
/-- .. of a def that may be refused: F its value, or R: the error of the class at C -/
def spX (K : PySem.W.Frag) (C : Addr) (F : List PyData → PyData → Prop) (R : List PyData → Prop) : Sp := fun vs H Q X => ∃ B ds, Same B H ∧ Tb B H ∧ DpAll K B vs ds ∧
  ((∃ d, F ds d ∧ ∀ v B' H', Stp B H B' H' → Dp K B' v d → Q v H') ∨ (R ds ∧ ∀ H', Gro H H' → X (.ref C) none H'))
theorem ev_callX {F : List PyData → PyData → Prop} {R : List PyData → Prop} {C : Addr} {X : XK} {t : TA} (ht : EvA K t r ds) (hF : F ds d) : EvD K (tCall (spX K C F R) [] X t) r d := fun B H s E Q k =>
  ht B H s E _ fun vs B1 H1 x1 h1 => ⟨B1, ds, x1.i, x1.tb E.tb, by rw [List.append_nil]; exact h1, .inl ⟨d, hF, fun v B2 H2 x2 h2 => k v B2 H2 (x1.trans x2) h2⟩⟩
end
end Od

namespace Od
open PySem PySem.Spec PyProof.Rows L2

/-! ### statements -/
structure EnvS (K : PySem.W.Frag) (B0 H0 B H : Hp) (s : L2.St) (r : Rho) : Prop where
  st : Stp B0 H0 B H
  en : EnvR K B H s r
  ow : ∀ {n : Nat} {ds : List PyData} {l : Addr}, r[n]? = some (.ow ds) → s[n]? = some (some (.ref l)) → H0 l = none
/-- what is wanted behind a statement -/
structure EndD where
  nx : Rho → Prop
  rt : PyData → Prop
  bk : Rho → Prop := fun _ => False
  ct : Rho → Prop := fun _ => False
structure Sat (K : PySem.W.Frag) (B0 H0 : Hp) (W : EndD) (D : Ends) : Prop where
  nx : ∀ r B H s, W.nx r → EnvS K B0 H0 B H s r → D.nx s H
  rt : ∀ d v B H, W.rt d → Stp B0 H0 B H → Dp K B v d → D.rt v H
  bk : ∀ r B H s, W.bk r → EnvS K B0 H0 B H s r → D.bk s H
  ct : ∀ r B H s, W.ct r → EnvS K B0 H0 B H s r → D.ct s H
def WP (K : PySem.W.Frag) (H0 : Hp) (ts : TS) (r : Rho) (W : EndD) : Prop := ∀ B0 B H s D, EnvS K B0 H0 B H s r → Sat K B0 H0 W D → ts D s H
section
variable {K : PySem.W.Frag} {H0 : Hp} {r : Rho} {d e f : PyData} {ds es : List PyData} {te ta tb tc : TE} {t u : TS} {W : EndD}
theorem EnvS.mono {B0 B H B' H' : Hp} {s : L2.St} (e : EnvS K B0 H0 B H s r) (x : Stp B H B' H') : EnvS K B0 H0 B' H' s r := ⟨e.st.trans x, e.en.mono x, e.ow⟩
theorem EnvS.set_im {B0 B H : Hp} {s : L2.St} (e : EnvS K B0 H0 B H s r) {n : Nat} {v : V} (h : Dp K B v d) : EnvS K B0 H0 B H (s.set n (some v)) (r.set n (.im d)) := ⟨e.st, e.en.set_im h, fun {m ds l} h1 h2 => by
  rcases get_set h1 with ⟨_, z, _⟩ | ⟨a1, a2⟩
  · cases z
  rw [List.getElem?_set_ne (fun z => a1 z.symm)] at h2
  exact e.ow a2 h2⟩
theorem EnvS.set_ow {B0 B H B' H' : Hp} {s : L2.St} (e : EnvS K B0 H0 B H s r) (x : Stp B H B' H') {n : Nat} {l : Addr} {xs : List V} (hn : H l = none) (hl : H' l = some (.lst xs)) (hb : B' l = none) (hd : DpAll K B' xs ds) :
    EnvS K B0 H0 B' H' (s.set n (some (.ref l))) (r.set n (.ow ds)) := ⟨e.st.trans x, e.en.set_ow x hn hl hb hd, fun {m es l'} h1 h2 => by
  rcases get_set h1 with ⟨rfl, z, a2⟩ | ⟨a1, a2⟩
  · rw [List.getElem?_set_self (by rw [e.en.len]; exact a2)] at h2
    cases h2
    exact e.st.h.free hn
  rw [List.getElem?_set_ne (fun z => a1 z.symm)] at h2
  exact e.ow a2 h2⟩
theorem EnvS.mut {B0 B H : Hp} {s : L2.St} (e : EnvS K B0 H0 B H s r) {n : Nat} {l : Addr} {xs : List V} {ds ds' : List PyData} (hr : r[n]? = some (.ow ds)) (hs : s[n]? = some (some (.ref l))) (hd : DpAll K B xs ds') :
    EnvS K B0 H0 B (upd H l (.lst xs)) s (r.set n (.ow ds')) := by
  obtain ⟨l', ys, q1, q2, _, q4⟩ := e.en.ow hr
  rw [hs] at q1; cases q1
  refine ⟨e.st.mut (e.ow hr hs) q4 q2, e.en.mut hr hs hd, fun {m es l'} h1 h2 => ?_⟩
  rcases get_set h1 with ⟨rfl, z, a2⟩ | ⟨a1, a2⟩
  · exact e.ow hr h2
  · exact e.ow a2 h2
theorem WP.imp {W' : EndD} (h : WP K H0 t r W) (h1 : ∀ r, W.nx r → W'.nx r) (h2 : ∀ d, W.rt d → W'.rt d) (h3 : ∀ r, W.bk r → W'.bk r) (h4 : ∀ r, W.ct r → W'.ct r) : WP K H0 t r W' := fun B0 B H s D E S =>
  h B0 B H s D E ⟨fun r B H s q => S.nx r B H s (h1 r q), fun d v B H q => S.rt d v B H (h2 d q), fun r B H s q => S.bk r B H s (h3 r q), fun r B H s q => S.ct r B H s (h4 r q)⟩
theorem wp_seq (h : WP K H0 t r { W with nx := fun r' => WP K H0 u r' W }) : WP K H0 (tSeq t u) r W := fun B0 B H s D E S =>
  h B0 B H s { D with nx := u D } E ⟨fun r' B' H' s' q E' => q B0 B' H' s' D E' S, S.rt, S.bk, S.ct⟩
theorem wp_is {r' : Rho} (h : WP K H0 t r' W) (e : r' = r) : WP K H0 t r W := e ▸ h
theorem wp_next (h : W.nx r) : WP K H0 tNext r W := fun B0 B H s D E S => S.nx r B H s h E
theorem wp_brk (h : W.bk r) : WP K H0 tBreak r W := fun B0 B H s D E S => S.bk r B H s h E
theorem wp_cont (h : W.ct r) : WP K H0 tCont r W := fun B0 B H s D E S => S.ct r B H s h E
theorem wp_ret (h : EvD K te r d) (q : W.rt d) : WP K H0 (tRet te) r W := fun B0 B H s D E S =>
  h B H s E.en _ fun v B' H' x hv => S.rt d v B' H' q (E.st.trans x) hv
theorem wp_if {c : TT} {b : Bool} (h : EvT K c r b) (h1 : b = true → WP K H0 t r W) (h2 : b = false → WP K H0 u r W) : WP K H0 (tIfS c t u) r W := fun B0 B H s D E S =>
  h B H s E.en _ fun B' H' x => by
    cases b with
    | true => exact h1 rfl B0 B' H' s D (E.mono x) S
    | false => exact h2 rfl B0 B' H' s D (E.mono x) S
/-- both ways lead to r2 -/
theorem wp_join {c : TT} {b : Bool} (r2 : Rho) (h : EvT K c r b) (h1 : b = true → WP K H0 t r { W with nx := fun x => x = r2 }) (h2 : b = false → WP K H0 u r { W with nx := fun x => x = r2 }) (q : W.nx r2) : WP K H0 (tIfS c t u) r W :=
  wp_if h (fun e => (h1 e).imp (fun _ z => z ▸ q) (fun _ z => z) (fun _ z => z) (fun _ z => z)) (fun e => (h2 e).imp (fun _ z => z ▸ q) (fun _ z => z) (fun _ z => z) (fun _ z => z))
/-- a target takes a value -/
def GS (K : PySem.W.Frag) (g : TG) (d : PyData) (r r2 : Rho) : Prop := ∀ v B0 H0 B H s, EnvS K B0 H0 B H s r → Dp K B v d → ∀ Q : L2.St → Hp → Prop, (∀ s2, EnvS K B0 H0 B H s2 r2 → Q s2 H) → g v s H Q
theorem gs_name {i : Nat} : GS K (gName i) d r (r.set i (.im d)) := fun v B0 H0 B H s E h Q k => k _ (E.set_im h)
theorem gs_tup2 {i j : Nat} : GS K (gTup K 2 (gCons (gName i) (gCons (gName j) gNil))) (.tuple [d, e]) r ((r.set i (.im d)).set j (.im e)) := fun v B0 H0 B H s E h Q k => by
  cases h with
  | tup q2 q3 =>
    cases q3 with
    | cons a1 q3 =>
      cases q3 with
      | cons a2 q3 =>
        cases q3
        exact ⟨_, _, rfl, sqt_mono E.en.i q2, rfl, _, _, rfl, _, _, rfl, rfl, k _ ((E.set_im a1).set_im a2)⟩
theorem wp_asg {g : TG} {r2 : Rho} (h : EvD K te r d) (hg : GS K g d r r2) (q : W.nx r2) : WP K H0 (tAsg te g) r W := fun B0 B H s D E S =>
  h B H s E.en _ fun v B' H' x hv => hg v B0 H0 B' H' s (E.mono x) hv _ fun s2 E2 => S.nx r2 B' H' s2 q E2
theorem wp_set {i : Nat} (h : EvD K te r d) (q : W.nx (r.set i (.im d))) : WP K H0 (tAsg te (gName i)) r W := wp_asg h gs_name q
/-- name = a new list, the name's own -/
theorem wp_setN {i : Nat} (h : EvN K te r ds) (q : W.nx (r.set i (.ow ds))) : WP K H0 (tAsg te (gName i)) r W := fun B0 B H s D E S =>
  h B H s E.en _ fun l xs B' H' x h1 h2 h3 h4 => S.nx _ B' H' _ q (E.set_ow x h1 h2 h3 h4)
theorem wp_append {n : Nat} (hr : r[n]? = some (.ow ds)) (h : EvD K te r d) (hz : ds.length < sizeLine) (q : W.nx (r.set n (.ow (ds ++ [d])))) :
    WP K H0 (tDrop (tBM K "list" rAppend (tVar n) (tCons te tNil))) r W := fun B0 B H s D E S => by
  obtain ⟨l, xs, h1, h2, h3, h4⟩ := E.en.ow hr
  refine ⟨.ref l, h1, .inl ⟨rfl, xs, .of h2⟩, h B H s E.en _ fun v B' H' x hv => ?_⟩
  have E' := E.mono x
  have h3' := dpa_mono x.b _ _ h3
  exact ⟨l, xs, v, rfl, rfl, x.h _ _ h2, by rw [dpa_len h3]; exact hz, S.nx _ B' _ s q (E'.mut hr h1 (dpa_app h3' (.cons hv .nil)))⟩
theorem wp_setitem {n j : Nat} {k : Int} {ti : TE} (hr : r[n]? = some (.ow ds)) (h : EvD K te r d) (hi : EvD K ti r (.int k)) (hk : ixN ds.length k = some j) (q : W.nx (r.set n (.ow (ds.set j d)))) :
    WP K H0 (tAsg te (gSub (tVar n) ti rSetL)) r W := fun B0 B H s D E S =>
  h B H s E.en _ fun v B1 H1 x1 hv => by
    obtain ⟨l, xs, h1, h2, h3, h4⟩ := (E.mono x1).en.ow hr
    refine ⟨.ref l, h1, hi B1 H1 s (E.mono x1).en _ fun w B2 H2 x2 hw => ?_⟩
    cases hw
    have h3' := dpa_mono x2.b _ _ h3
    exact ⟨l, xs, k, j, rfl, rfl, x2.h _ _ h2, by rw [dpa_len h3]; exact hk, S.nx _ B2 _ s q (((E.mono x1).mono x2).mut hr h1 (dpa_set (dp_mono x2.b _ _ hv) j h3'))⟩
/-- an own list is given to what follows as data -/
theorem wp_free {n : Nat} (hr : r[n]? = some (.ow ds)) (h : WP K H0 t (r.set n (.im (.list ds))) W) : WP K H0 t r W := fun B0 B H s D E S => by
  obtain ⟨l, xs, h1, h2, h3, h4⟩ := E.en.ow hr
  refine h B0 (upd B l (.lst xs)) H s D ⟨E.st.take (E.ow hr h1) h4 h2, ?_, fun {m es l'} q1 q2 => ?_⟩ S
  · have hn : n < r.length := (List.getElem?_eq_some_iff.mp hr).1
    refine ⟨fun a o e => ?_, ⟨by rw [upd_ne (fun z => E.en.tb.t.elim fun ps w => by rw [z, h2] at w; cases w.1)]; exact E.en.tb.b, E.en.tb.t⟩, by rw [List.length_set]; exact E.en.len, fun {m d'} h' => ?_, fun {m es} h' => ?_, fun {n1 n2 d1 d2 l'} q1 q2 q3 q4 => ?_⟩
    · by_cases z : a = l
      · subst z; rw [upd_same] at e; cases e; exact h2
      · rw [upd_ne z] at e; exact E.en.i _ _ e
    · rcases get_set h' with ⟨rfl, e1, e2⟩ | ⟨e1, e2⟩
      · cases e1
        exact ⟨_, h1, .lst (.of upd_same) (dpa_mono (same_new h4) _ _ h3)⟩
      · obtain ⟨w, p1, p2⟩ := E.en.im e2
        exact ⟨w, p1, dp_mono (same_new h4) _ _ p2⟩
    · rcases get_set h' with ⟨rfl, e1, e2⟩ | ⟨e1, e2⟩
      · cases e1
      · obtain ⟨l', ys, p1, p2, p3, p4⟩ := E.en.ow e2
        have : l' ≠ l := fun z => e1 (E.en.ne e2 hr p1 (by rw [z]; exact h1))
        exact ⟨l', ys, p1, p2, dpa_mono (same_new h4) _ _ p3, by rw [upd_ne this]; exact p4⟩
    · rcases get_set q1 with ⟨_, z, _⟩ | ⟨a1, a2⟩
      · cases z
      rcases get_set q2 with ⟨_, z, _⟩ | ⟨b1, b2⟩
      · cases z
      exact E.en.ne a2 b2 q3 q4
  · rcases get_set q1 with ⟨_, z, _⟩ | ⟨a1, a2⟩
    · cases z
    exact E.ow a2 q2

/-! ### loops -/
/-- what a loop walks, as data -/
structure Walks (K : PySem.W.Frag) (J : It) (B0 : Hp) (xs : List PyData) : Prop where
  go : ∀ i B H, Same B0 B → Same B H → i < xs.length → J.go i H
  yld : ∀ i B H x H', Same B0 B → Same B H → J.yld i H x H' → i < xs.length → ∃ d B', xs[i]? = some d ∧ Stp B H B' H' ∧ Dp K B' x d
  stop : ∀ B H, Same B0 B → Same B H → J.stop xs.length H
def EvI (K : PySem.W.Frag) (wi : TI) (r : Rho) (xs : List PyData) : Prop := ∀ B H s, EnvR K B H s r → ∀ R : It → Hp → Prop, (∀ J B' H', Stp B H B' H' → Walks K J B' xs → R J H') → wi s H R
theorem ei_tup (h : EvD K te r (.tuple ds)) : EvI K (iTup K te) r ds := fun B H s E R k => h B H s E _ fun v B1 H1 x1 hv => by
  cases hv with
  | @tup a xs _ q2 q3 =>
    refine ⟨a, rfl, ⟨xs, sqt_mono x1.i q2⟩, k _ B1 H1 x1 ⟨fun i B' H' e1 e2 hi => ?_, fun i B' H' x H'' e1 e2 y hi => ?_, fun B' H' e1 e2 => ⟨xs, sqt_mono (e1.trans e2) q2, by rw [dpa_len q3]; exact Nat.le_refl _⟩⟩⟩
    · obtain ⟨v, p1, p2⟩ := dpa_get q3 (List.getElem?_eq_getElem hi)
      exact ⟨xs, v, sqt_mono (e1.trans e2) q2, p1⟩
    · obtain ⟨rfl, y⟩ := y
      obtain ⟨v, p1, p2⟩ := dpa_get q3 (List.getElem?_eq_getElem hi)
      have := y xs (sqt_mono (e1.trans e2) q2)
      rw [p1] at this
      cases this
      exact ⟨_, B', List.getElem?_eq_getElem hi, .refl e2, dp_mono e1 _ _ p2⟩
theorem ei_list (h : EvD K te r (.list ds)) : EvI K (iList K te) r ds := fun B H s E R k => h B H s E _ fun v B1 H1 x1 hv => by
  cases hv with
  | @lst a xs _ q2 q3 =>
    refine ⟨a, rfl, ⟨xs, x1.i.seq q2⟩, k _ B1 H1 x1 ⟨fun i B' H' e1 e2 hi => ?_, fun i B' H' x H'' e1 e2 y hi => ?_, fun B' H' e1 e2 => ⟨xs, (e1.trans e2).seq q2, by rw [dpa_len q3]; exact Nat.le_refl _⟩⟩⟩
    · obtain ⟨v, p1, p2⟩ := dpa_get q3 (List.getElem?_eq_getElem hi)
      exact ⟨xs, v, (e1.trans e2).seq q2, p1⟩
    · obtain ⟨rfl, y⟩ := y
      obtain ⟨v, p1, p2⟩ := dpa_get q3 (List.getElem?_eq_getElem hi)
      have := y xs ((e1.trans e2).seq q2)
      rw [p1] at this
      cases this
      exact ⟨_, B', List.getElem?_eq_getElem hi, .refl e2, dp_mono e1 _ _ p2⟩
/-- lo, lo + 1, .., n of them -/
def irange (lo : Int) (n : Nat) : List Int := (List.range n).map fun (i : Nat) => lo + (i : Int)
theorem irange_len {lo : Int} {n : Nat} : (irange lo n).length = n := by unfold irange; rw [List.length_map, List.length_range]
theorem irange_get {lo : Int} {n i : Nat} (h : i < n) : (irange lo n)[i]? = some (lo + (i : Int)) := by
  unfold irange
  rw [List.getElem?_map, List.getElem?_range h]; rfl
theorem irange_mem {lo : Int} {n : Nat} {x : Int} : x ∈ irange lo n ↔ lo ≤ x ∧ x < lo + (n : Int) := by
  unfold irange
  rw [List.mem_map]
  constructor
  · rintro ⟨i, hi, rfl⟩
    have := List.mem_range.mp hi
    omega
  · rintro ⟨h1, h2⟩
    exact ⟨(x - lo).toNat, List.mem_range.mpr (by omega), by omega⟩
theorem walks_rng {lo : Int} {n : Nat} {B : Hp} : Walks K (Itr lo n) B ((irange lo n).map .int) where
  go := fun i B' H e1 e2 hi => by rw [List.length_map, irange_len] at hi; exact hi
  yld := fun i B' H x H' e1 e2 y hi => by
    rw [List.length_map, irange_len] at hi
    obtain ⟨rfl, rfl⟩ := y
    exact ⟨.int (lo + i), B', by rw [List.getElem?_map, irange_get hi]; rfl, .refl e2, .int _⟩
  stop := fun B' H e1 e2 => by rw [List.length_map, irange_len]; exact Nat.le_refl n
theorem ei_rng1 {ta : TA} {j : Int} (h : EvA K ta r [.int j]) (h1 : -(2 ^ 62) ≤ j) (h2 : j < 2 ^ 62) : EvI K (iRng1 ta) r ((irange 0 j.toNat).map .int) := fun B H s E R k => h B H s E _ fun vs B1 H1 x1 hv => by
  cases hv with
  | cons a b =>
    cases a; cases b
    exact ⟨j, rfl, h1, h2, k _ B1 H1 x1 walks_rng⟩
theorem ei_rng2 {ta : TA} {i j : Int} (h : EvA K ta r [.int i, .int j]) (h1 : -(2 ^ 62) ≤ i) (h2 : i < 2 ^ 62) (h3 : -(2 ^ 62) ≤ j) (h4 : j < 2 ^ 62) : EvI K (iRng2 ta) r ((irange i (j - i).toNat).map .int) := fun B H s E R k => h B H s E _ fun vs B1 H1 x1 hv => by
  cases hv with
  | cons a b =>
    cases a
    cases b with
    | cons a b =>
      cases a; cases b
      exact ⟨i, j, rfl, ⟨h1, h2, h3, h4⟩, k _ B1 H1 x1 walks_rng⟩
theorem EnvS.base {B0 B1 H1 B H : Hp} {s s' : L2.St} {r' : Rho} (e : EnvS K B0 H0 B1 H1 s r) (e' : EnvS K B1 H0 B H s' r') : EnvS K B0 H0 B H s' r' :=
  ⟨⟨e.st.b.trans e'.st.b, e'.st.h, e'.st.i, fun a n m => e'.st.f a (e.st.f a n m) m⟩, e'.en, e'.ow⟩
theorem EnvS.rebase {B0 B H : Hp} {s : L2.St} (e : EnvS K B0 H0 B H s r) : EnvS K B H0 B H s r := ⟨⟨Same.refl _, e.st.h, e.st.i, fun _ n _ => n⟩, e.en, e.ow⟩
theorem Sat.rebase {B0 B1 H1 : Hp} {s : L2.St} {D : Ends} (e : EnvS K B0 H0 B1 H1 s r) (S : Sat K B0 H0 W D) : Sat K B1 H0 W D :=
  ⟨fun r' B H s' q E => S.nx r' B H s' q (e.base E), fun d v B H q x h => S.rt d v B H q ⟨e.st.b.trans x.b, x.h, x.i, fun a n m => x.f a (e.st.f a n m) m⟩ h, fun r' B H s' q E => S.bk r' B H s' q (e.base E), fun r' B H s' q E => S.ct r' B H s' q (e.base E)⟩
theorem wp_for {wi : TI} {g : TG} {xs : List PyData} (hi : EvI K wi r xs) (I : Nat → Rho → Prop) (h0 : I 0 r)
    (hs : ∀ i d r1, xs[i]? = some d → I i r1 → ∃ r2, GS K g d r1 r2 ∧ WP K H0 t r2 { W with nx := I (i + 1), ct := I (i + 1), bk := W.nx }) (hd : ∀ r1, I xs.length r1 → W.nx r1) : WP K H0 (tFor wi g t) r W := fun B0 B H s D E S =>
  hi B H s E.en _ fun J B1 H1 x1 wk => by
    have E1 := E.mono x1
    have S1 := S.rebase E1
    refine ⟨fun i m s' H' => m = xs.length - i ∧ i ≤ xs.length ∧ ∃ r' B', I i r' ∧ EnvS K B1 H0 B' H' s' r', ⟨xs.length, by simp, Nat.zero_le _, r, B1, h0, E1.rebase⟩, ?_⟩
    rintro i m s' H' ⟨rfl, hle, r', B', hI, E'⟩
    by_cases hlt : i < xs.length
    · refine .inr ⟨wk.go i B' H' E'.st.b E'.st.i hlt, fun s2 H2 => ∃ r2 B2, I (i + 1) r2 ∧ EnvS K B1 H0 B2 H2 s2 r2, fun s2 H2 ⟨r2, B2, q1, q2⟩ => ⟨xs.length - (i + 1), by omega, rfl, hlt, r2, B2, q1, q2⟩, fun x H2 y => ?_⟩
      obtain ⟨d, B2, q1, q2, q3⟩ := wk.yld i B' H' x H2 E'.st.b E'.st.i y hlt
      obtain ⟨r2, hg, hw⟩ := hs i d r' q1 hI
      refine hg x B1 H0 B2 H2 s' (E'.mono q2) q3 _ fun s2 E2 => ?_
      exact hw B1 B2 H2 s2 _ E2 ⟨fun r3 B3 H3 s3 q E3 => ⟨r3, B3, q, E3⟩, S1.rt, fun r3 B3 H3 s3 q E3 => S1.nx r3 B3 H3 s3 q E3, fun r3 B3 H3 s3 q E3 => ⟨r3, B3, q, E3⟩⟩
    · have e : i = xs.length := by omega
      subst e
      exact .inl ⟨wk.stop B' H' E'.st.b E'.st.i, S1.nx r' B' H' s' (hd r' hI) E'⟩
/-- while: the invariant with its measure -/
theorem wp_while {c : TT} (I : Nat → Rho → Prop) (m0 : Nat) (h0 : I m0 r) (hs : ∀ m r1, I m r1 → ∃ b, EvT K c r1 b ∧ (b = true → WP K H0 t r1 { W with nx := fun r2 => ∃ m', m' < m ∧ I m' r2, ct := fun r2 => ∃ m', m' < m ∧ I m' r2, bk := W.nx }) ∧ (b = false → W.nx r1)) :
    WP K H0 (tWhile c t) r W := fun B0 B H s D E S => by
  refine ⟨fun m s' H' => ∃ r' B', I m r' ∧ EnvS K B0 H0 B' H' s' r', ⟨m0, r, B, h0, E⟩, ?_⟩
  rintro m s' H' ⟨r', B', hI, E'⟩
  obtain ⟨b, hc, h1, h2⟩ := hs m r' hI
  refine hc B' H' s' E'.en _ fun B2 H2 x2 => ?_
  cases b with
  | true =>
    refine ⟨fun s3 H3 => ∃ m', m' < m ∧ ∃ r3 B3, I m' r3 ∧ EnvS K B0 H0 B3 H3 s3 r3, fun s3 H3 ⟨m', l, q⟩ => ⟨m', l, q⟩, ?_⟩
    exact h1 rfl B0 B2 H2 s' _ (E'.mono x2) ⟨fun r3 B3 H3 s3 ⟨m', l, q⟩ E3 => ⟨m', l, r3, B3, q, E3⟩, S.rt, fun r3 B3 H3 s3 q E3 => S.nx r3 B3 H3 s3 q E3, fun r3 B3 H3 s3 ⟨m', l, q⟩ E3 => ⟨m', l, r3, B3, q, E3⟩⟩
  | false => exact S.nx r' B2 H2 s' (h2 rfl) (E'.mono x2)

/-! ### comprehensions -/
def wipeR (r : Rho) : List Nat → Rho
  | [] => r
  | v :: vs => (wipeR r vs).set v .no
theorem EnvR.wipe {B H : Hp} {s : L2.St} (e : EnvR K B H s r) : ∀ vs : List Nat, EnvR K B H (L2.wipe s vs) (wipeR r vs)
  | [] => e
  | v :: vs => (EnvR.wipe e vs).set_no
theorem wipe_set {s : L2.St} {i : Nat} {o : Option V} : ∀ {vs : List Nat}, i ∈ vs → L2.wipe (s.set i o) vs = L2.wipe s vs
  | [], h => by cases h
  | v :: vs, h => by
    by_cases hv : i ∈ vs
    · show (L2.wipe (s.set i o) vs).set v none = (L2.wipe s vs).set v none
      rw [wipe_set hv]
    · have e : i = v := by
        rcases List.mem_cons.mp h with h | h
        · exact h
        · exact absurd h hv
      subst e
      show (L2.wipe (s.set i o) vs).set i none = (L2.wipe s vs).set i none
      have : ∀ {ws : List Nat}, i ∉ ws → (L2.wipe (s.set i o) ws) = (L2.wipe s ws).set i o := by
        intro ws
        induction ws with
        | nil => intro _; rfl
        | cons w ws ih =>
          intro hw
          have h1 : i ≠ w := fun z => hw (by rw [z]; exact List.mem_cons_self)
          have h2 : i ∉ ws := fun z => hw (List.mem_cons_of_mem _ z)
          show (L2.wipe (s.set i o) ws).set w none = ((L2.wipe s ws).set w none).set i o
          rw [ih h2, List.set_comm _ _ h1]
      rw [this hv, List.set_set]
theorem wipe_idem {s : L2.St} : ∀ vs : List Nat, L2.wipe (L2.wipe s vs) vs = L2.wipe s vs
  | [] => rfl
  | v :: vs => by
    show (L2.wipe ((L2.wipe s vs).set v none) vs).set v none = (L2.wipe s vs).set v none
    by_cases hv : v ∈ vs
    · rw [wipe_set hv, wipe_idem vs]
    · have : ∀ {ws : List Nat} {s' : L2.St}, v ∉ ws → (L2.wipe (s'.set v none) ws) = (L2.wipe s' ws).set v none := by
        intro ws s'
        induction ws with
        | nil => intro _; rfl
        | cons w ws ih =>
          intro hw
          have h1 : v ≠ w := fun z => hw (by rw [z]; exact List.mem_cons_self)
          have h2 : v ∉ ws := fun z => hw (List.mem_cons_of_mem _ z)
          show (L2.wipe (s'.set v none) ws).set w none = ((L2.wipe s' ws).set w none).set v none
          rw [ih h2, List.set_comm _ _ h1]
      rw [this hv, List.set_set, wipe_idem vs]
/-- a comprehension's target takes a value -/
def GC (K : PySem.W.Frag) (vs : List Nat) (g : TG) (d : PyData) (r r2 : Rho) : Prop := ∀ v B H s, EnvR K B H s r → Dp K B v d → ∀ Q : L2.St → Hp → Prop, (∀ s2, EnvR K B H s2 r2 → L2.wipe s2 vs = L2.wipe s vs → Q s2 H) → g v s H Q
theorem gc_name {vs : List Nat} {i : Nat} (hi : i ∈ vs) : GC K vs (gName i) d r (r.set i (.im d)) := fun v B H s E h Q k => k _ (E.set_im h) (wipe_set hi)
theorem gc_tup2 {vs : List Nat} {i j : Nat} (hi : i ∈ vs) (hj : j ∈ vs) : GC K vs (gTup K 2 (gCons (gName i) (gCons (gName j) gNil))) (.tuple [d, e]) r ((r.set i (.im d)).set j (.im e)) := fun v B H s E h Q k => by
  cases h with
  | tup q2 q3 =>
    cases q3 with
    | cons a1 q3 =>
      cases q3 with
      | cons a2 q3 =>
        cases q3
        exact ⟨_, _, rfl, sqt_mono E.i q2, rfl, _, _, rfl, _, _, rfl, rfl, k _ ((E.set_im a1).set_im a2) (by rw [wipe_set hj, wipe_set hi])⟩
theorem et_yes : EvT K tYes r true := fun B H s E Q k => k B H (.refl E.i)
theorem fm_take {α β : Type} {f : α → Option β} : ∀ {l : List α} {i : Nat} {x : α}, l[i]? = some x → (l.take (i + 1)).filterMap f = (l.take i).filterMap f ++ (f x).toList := fun {l i x} h => by
  rw [List.take_add_one, h, List.filterMap_append]
  congr 1
theorem ev_lc {α : Type} {wi : TI} {g : TG} {tt : TT} {vs : List Nat} (as : List α) (c : α → PyData) (f : α → Option PyData) (hi : EvI K wi r (as.map c)) (hz : as.length ≤ sizeLine)
    (hs : ∀ a ∈ as, ∃ r2, GC K vs g (c a) (wipeR r vs) r2 ∧ ∃ b, EvT K tt r2 b ∧ ((b = false ∧ f a = none) ∨ (b = true ∧ ∃ y, f a = some y ∧ EvD K te r2 y))) : EvN K (tLc wi g tt te vs) r (as.filterMap f) := fun B H s E Q k =>
  hi B H s E _ fun J B1 H1 x1 wk => fun D hD => by
    have hBD : B1 D = none := x1.i.free hD
    refine ⟨fun i m H' => m = as.length - i ∧ i ≤ as.length ∧ ∃ B' acc, Stp B1 H1 B' H' ∧ B' D = none ∧ H' D = some (.lst acc) ∧ DpAll K B' acc ((as.take i).filterMap f),
      ⟨as.length, by simp, Nat.zero_le _, B1, [], .skip x1.i hD, hBD, upd_same, .nil⟩, ?_⟩
    rintro i m H' ⟨rfl, hle, B', acc, st, hb, hh, hd⟩
    have hlen : (as.map c).length = as.length := List.length_map _
    by_cases hlt : i < as.length
    · refine .inr ⟨wk.go i B' H' st.b st.i (by rw [hlen]; exact hlt), fun H2 => ∃ B2 acc2, Stp B1 H1 B2 H2 ∧ B2 D = none ∧ H2 D = some (.lst acc2) ∧ DpAll K B2 acc2 ((as.take (i + 1)).filterMap f), fun H2 ⟨B2, acc2, q⟩ => ⟨as.length - (i + 1), by omega, rfl, hlt, B2, acc2, q⟩, fun x H2 y => ?_⟩
      obtain ⟨d, B2, q1, q2, q3⟩ := wk.yld i B' H' x H2 st.b st.i y (by rw [hlen]; exact hlt)
      have ha : as[i]? = some as[i] := List.getElem?_eq_getElem hlt
      rw [List.getElem?_map, ha] at q1
      have q1' : c as[i] = d := Option.some.inj q1
      subst q1'
      obtain ⟨r2, hg, b, hb2, hc⟩ := hs as[i] (List.getElem_mem hlt)
      have st2 := st.trans q2
      have E2 := ((E.mono x1).mono st2).wipe vs
      refine hg x B2 H2 _ E2 q3 _ fun s2 E3 hw => ⟨by rw [hw, wipe_idem], ?_⟩
      refine hb2 B2 H2 s2 E3 _ fun B3 H3 x3 => ?_
      have hD2 : H2 D = some (.lst acc) := q2.h _ _ hh
      have hD3 : H3 D = some (.lst acc) := x3.h _ _ hD2
      have nn : H2 D ≠ none := by rw [hD2]; exact fun z => nomatch z
      have hB2 : B2 D = none := q2.f D hb (by rw [hh]; exact fun z => nomatch z)
      have hB3 : B3 D = none := x3.f D hB2 nn
      have hd3 := dpa_mono (q2.b.trans x3.b) _ _ hd
      have st3 := st2.trans x3
      rcases hc with ⟨rfl, hf⟩ | ⟨rfl, y, hf, hy⟩
      · refine ⟨B3, acc, st3, hB3, hD3, ?_⟩
        rw [fm_take ha, hf]
        show DpAll K B3 acc (_ ++ [])
        rw [List.append_nil]
        exact hd3
      · refine hy B3 H3 s2 (E3.mono x3) _ fun v B4 H4 x4 hv => ?_
        have hD4 : H4 D = some (.lst acc) := x4.h _ _ hD3
        have hB4 : B4 D = none := x4.f D hB3 (by rw [hD3]; exact fun z => nomatch z)
        refine ⟨acc, hD4, ?_, B4, _, (st3.trans x4).mut hD hB4 hD4, hB4, upd_same, ?_⟩
        · rw [dpa_len hd]
          have : ((as.take i).filterMap f).length ≤ i := Nat.le_trans (List.length_filterMap_le _ _) (by rw [List.length_take]; exact Nat.min_le_left _ _)
          omega
        · rw [fm_take ha, hf]
          exact dpa_app (dpa_mono x4.b _ _ hd3) (.cons hv .nil)
    · have e : i = as.length := by omega
      subst e
      rw [List.take_length] at hd
      exact .inl ⟨by have := wk.stop B' H' st.b st.i; rw [hlen] at this; exact this, k D acc B' H' (x1.trans st) (x1.h.free hD) hh hb hd⟩
theorem fm_all {α : Type} {y : α → PyData} : ∀ as : List α, as.filterMap (fun a => some (y a)) = as.map y
  | [] => rfl
  | a :: as => by rw [List.filterMap_cons_some (f := fun a => some (y a)) (b := y a) rfl, fm_all as]; rfl
theorem fm_if {α : Type} {p : α → Bool} {y : α → PyData} : ∀ as : List α, as.filterMap (fun a => if p a then some (y a) else none) = (as.filter p).map y
  | [] => rfl
  | a :: as => by
    cases h : p a with
    | true => rw [List.filterMap_cons_some (b := y a) (by simp [h]), fm_if as, List.filter_cons_of_pos h]; rfl
    | false => rw [List.filterMap_cons_none (by simp [h]), fm_if as, List.filter_cons_of_neg (by simp [h])]
/-- [y for a in as] -/
theorem ev_lcM {α : Type} {wi : TI} {g : TG} {vs : List Nat} {xs : List PyData} (hi : EvI K wi r xs) (as : List α) (c : α → PyData) (y : α → PyData) (hx : xs = as.map c) (hz : as.length ≤ sizeLine)
    (hs : ∀ a ∈ as, ∃ r2, GC K vs g (c a) (wipeR r vs) r2 ∧ EvD K te r2 (y a)) : EvN K (tLc wi g tYes te vs) r (as.map y) := by
  subst hx
  rw [← fm_all as]
  exact ev_lc as c _ hi hz fun a ha => let ⟨r2, h1, h2⟩ := hs a ha; ⟨r2, h1, true, et_yes, .inr ⟨rfl, _, rfl, h2⟩⟩
/-- [y for a in as if p] -/
theorem ev_lcF {α : Type} {wi : TI} {g : TG} {tt : TT} {vs : List Nat} {xs : List PyData} (hi : EvI K wi r xs) (as : List α) (c : α → PyData) (p : α → Bool) (y : α → PyData) (hx : xs = as.map c) (hz : as.length ≤ sizeLine)
    (hs : ∀ a ∈ as, ∃ r2, GC K vs g (c a) (wipeR r vs) r2 ∧ EvT K tt r2 (p a) ∧ (p a = true → EvD K te r2 (y a))) : EvN K (tLc wi g tt te vs) r ((as.filter p).map y) := by
  subst hx
  rw [← fm_if as]
  exact ev_lc as c _ hi hz fun a ha => by
    obtain ⟨r2, h1, h2, h3⟩ := hs a ha
    refine ⟨r2, h1, p a, h2, ?_⟩
    cases q : p a with
    | true => exact .inr ⟨rfl, _, by simp, h3 q⟩
    | false => exact .inl ⟨rfl, by simp⟩

theorem ev_is2 (h : EvN K te r ds) (q : ds = es) : EvN K te r es := q ▸ h
/-! ### a def's body -/
def st0 (n : Nat) (ds : List PyData) : Rho := ds.map .im ++ List.replicate (n - ds.length) .no
theorem dpa_start {H : Hp} {N : List Str} {vs : List V} (h : DpAll K H vs ds) {B : Hp} (i : Same H B) (tb : Tb H B) : EnvR K H B (L2.start N vs) (st0 N.length ds) := by
  have hl := dpa_len h
  refine ⟨i, tb, ?_, fun {n d} e => ?_, fun {n es} e => ?_, fun {n m d1 d2 l} e1 e2 => ?_⟩
  · unfold L2.start st0
    rw [List.length_append, List.length_append, List.length_map, List.length_map, List.length_replicate, List.length_replicate, hl]
  · unfold st0 at e
    rw [List.getElem?_append] at e
    split at e
    · rename_i hn
      rw [List.length_map] at hn
      rw [List.getElem?_map] at e
      cases q : ds[n]? with
      | none => rw [q] at e; cases e
      | some d' =>
        rw [q] at e
        cases e
        obtain ⟨v, h1, h2⟩ := dpa_get h q
        refine ⟨v, ?_, h2⟩
        unfold L2.start
        rw [List.getElem?_append_left (by rw [List.length_map, hl]; exact hn), List.getElem?_map, h1]
        rfl
    · rw [List.getElem?_replicate] at e
      split at e <;> cases e
  · exfalso
    unfold st0 at e
    rw [List.getElem?_append] at e
    split at e
    · rw [List.getElem?_map] at e
      cases q : ds[n]? with
      | none => rw [q] at e; cases e
      | some d' => rw [q] at e; cases e
    · rw [List.getElem?_replicate] at e
      split at e <;> cases e
  · exfalso
    unfold st0 at e1
    rw [List.getElem?_append] at e1
    split at e1
    · rw [List.getElem?_map] at e1
      cases q : ds[n]? with
      | none => rw [q] at e1; cases e1
      | some d' => rw [q] at e1; cases e1
    · rw [List.getElem?_replicate] at e1
      split at e1 <;> cases e1
theorem env_start {H B : Hp} {N : List Str} {vs : List V} (h : DpAll K B vs ds) (i : Same B H) (tb : Tb B H) : EnvS K B H B H (L2.start N vs) (st0 N.length ds) := by
  have E := dpa_start (N := N) h i tb
  refine ⟨Stp.refl i, E, fun {n es l} e => ?_⟩
  exfalso
  unfold st0 at e
  rw [List.getElem?_append] at e
  split at e
  · rw [List.getElem?_map] at e
    cases q : ds[n]? with
    | none => rw [q] at e; cases e
    | some d' => rw [q] at e; cases e
  · rw [List.getElem?_replicate] at e
    split at e <;> cases e
theorem spR_body {F : List PyData → PyData → Prop} {N : List Str} {vs : List V} {H : Hp} {Q : VK} {X : XK} (h : spR K F vs H Q X)
    (hb : ∀ ds d H0, F ds d → WP K H0 t (st0 N.length ds) { nx := fun _ => False, rt := fun d' => d' = d }) : t { nx := fun _ H' => Q .non H', rt := Q } (L2.start N vs) H := by
  obtain ⟨B, ds, d, i, tb, hv, hF, k⟩ := h
  exact hb ds d H hF B B H _ _ (env_start hv i tb) ⟨fun _ _ _ _ z => z.elim, fun d' v B' H' e x y => k v B' H' x (e ▸ y), fun _ _ _ _ z => z.elim, fun _ _ _ _ z => z.elim⟩
theorem spR_len {F : List PyData → PyData → Prop} {vs : List V} {H : Hp} {Q : VK} {X : XK} {n : Nat} (h : spR K F vs H Q X) (hF : ∀ ds d, F ds d → ds.length = n) : vs.length = n := by
  obtain ⟨B, ds, d, i, tb, hv, h1, k⟩ := h
  rw [dpa_len hv, hF ds d h1]
theorem spX_body {C : Addr} {F : List PyData → PyData → Prop} {R : List PyData → Prop} {N : List Str} {vs : List V} {H : Hp} {Q : VK} {X : XK} (h : spX K C F R vs H Q X)
    (h1 : ∀ ds d, F ds d → WP K H t (st0 N.length ds) { nx := fun _ => False, rt := fun d' => d' = d })
    (h2 : ∀ ds, R ds → (∀ H', Gro H H' → X (.ref C) none H') → WP K H t (st0 N.length ds) { nx := fun _ => False, rt := fun _ => False }) : t { nx := fun _ H' => Q .non H', rt := Q } (L2.start N vs) H := by
  obtain ⟨B, ds, i, tb, hv, h⟩ := h
  rcases h with ⟨d, hF, k⟩ | ⟨hR, k⟩
  · exact h1 ds d hF B B H _ _ (env_start hv i tb) ⟨fun _ _ _ _ z => z.elim, fun d' v B' H' e x y => k v B' H' x (e ▸ y), fun _ _ _ _ z => z.elim, fun _ _ _ _ z => z.elim⟩
  · exact h2 ds hR k B B H _ _ (env_start hv i tb) ⟨fun _ _ _ _ z => z.elim, fun _ _ _ _ z => z.elim, fun _ _ _ _ z => z.elim, fun _ _ _ _ z => z.elim⟩
theorem spX_len {C : Addr} {F : List PyData → PyData → Prop} {R : List PyData → Prop} {vs : List V} {H : Hp} {Q : VK} {X : XK} {n : Nat} (h : spX K C F R vs H Q X) (hF : ∀ ds d, F ds d → ds.length = n) (hR : ∀ ds, R ds → ds.length = n) : vs.length = n := by
  obtain ⟨B, ds, i, tb, hv, h⟩ := h
  rcases h with ⟨d, h1, k⟩ | ⟨h1, k⟩
  · rw [dpa_len hv, hF ds d h1]
  · rw [dpa_len hv, hR ds h1]
/-- raise of the def's own error -/
theorem wp_raise {C : Addr} {X : XK} (h : ∀ H', Gro H0 H' → X (.ref C) none H') : WP K H0 (fun _ σ H => X (.ref C) none H) r W := fun B0 B H s D E S => h H E.st.h
/-! ### where a def stands, and that it keeps its promise -/
structure DefAt (K : PySem.W.Frag) (mg : Str → Option Value) (x : Str) (st : Stmt) (f : Addr) (fd : FuncData) : Prop where
  F : Fun K x x st f fd
  m : mg x = some (.ref f)
structure CalOk (P : Program) (w : World) (K : PySem.W.Frag) (mg : Str → Option Value) (base : Heap) (CX : CXT) (k : Nat) (x : Str) (ps : List Str) (sp : Sp) : Prop where
  ex : ∃ f fd, FnOk P w K mg base CX k f fd ps sp ∧ mg x = some (.ref f) ∧ PySem.W.keepIn K (.ref f) = true ∧ Binds K fd ps []
end
section
variable {X : Cx}
theorem pe_callC {k : Nat} {x : Str} {ps : List Str} {sp : Sp} {p pos : Pos} {e : Expr} {es : List Expr} {t : TA} (C : CalOk X.prog X.w X.K X.mg X.base CX0 k x ps sp) (hr : Room k X.A) (hg : Gl X x)
    (ha : PA X (e :: es) t) (hdb : (x == ("__debug__" : Str)) = false := by decide) (he : starEach (e :: es) X.env = (false, eval e X.env) :: starEach es X.env := by rfl) (hpl : (backTo pos (starEach es X.env)).any (·.1) = false := by rfl) :
    PE X (.Call (.Name x p) (e :: es) [] pos) (tCall sp [] E0 t) := by
  obtain ⟨f, fd, F, m, kp, b⟩ := C.ex
  exact pe_call F hr hg m kp b .nil pass0 ha hdb he hpl
theorem pe_callL {k : Nat} {x : Str} {ps : List Str} {sp : Sp} {p pos : Pos} {e : Expr} {es : List Expr} {t : TA} (C : CalOk X.prog X.w X.K X.mg X.base (L2.CX X.prog X.w) k x ps sp) (hr : Room k X.A) (hg : Gl X x)
    (ha : PA X (e :: es) t) (hdb : (x == ("__debug__" : Str)) = false := by decide) (he : starEach (e :: es) X.env = (false, eval e X.env) :: starEach es X.env := by rfl) (hpl : (backTo pos (starEach es X.env)).any (·.1) = false := by rfl) :
    PE X (.Call (.Name x p) (e :: es) [] pos) (tCall sp [] E0 t) := by
  obtain ⟨f, fd, F, m, kp, b⟩ := C.ex
  exact pe_call F hr hg m kp b .nil passL ha hdb he hpl
end
end Od

namespace Od
open PySem PySem.Spec PyProof.Rows L2

theorem boot_len : bootBuiltins "len" = some (.builtin "len") := by decide +kernel
theorem boot_sorted : bootBuiltins "sorted" = some (.builtin "sorted") := by decide +kernel
theorem boot_min : bootBuiltins "min" = some (.builtin "min") := by decide +kernel
theorem boot_max : bootBuiltins "max" = some (.builtin "max") := by decide +kernel
theorem boot_all : bootBuiltins "all" = some (.builtin "all") := by decide +kernel
theorem boot_isinstance : bootBuiltins "isinstance" = some (.builtin "isinstance") := by decide +kernel
theorem boot_tuple : bootBuiltins "tuple" = some (.type "tuple") := by decide +kernel
theorem boot_list : bootBuiltins "list" = some (.type "list") := by decide +kernel
theorem boot_int : bootBuiltins "int" = some (.type "int") := by decide +kernel
theorem boot_bool : bootBuiltins "bool" = some (.type "bool") := by decide +kernel
theorem boot_ValueError : bootBuiltins "ValueError" = some (.type "ValueError") := by decide +kernel
/-- the built-ins' names are not the module's -/
structure Bt (mg : Str → Option Value) : Prop where
  len_ : mg "len" = none
  sorted_ : mg "sorted" = none
  min_ : mg "min" = none
  max_ : mg "max" = none
  all_ : mg "all" = none
  isinstance_ : mg "isinstance" = none
  tuple_ : mg "tuple" = none
  list_ : mg "list" = none
  int_ : mg "int" = none
  bool_ : mg "bool" = none
  range_ : mg "range" = none
  enumerate_ : mg "enumerate" = none
  reversed_ : mg "reversed" = none
  ValueError_ : mg "ValueError" = none
/-- the error's class -/
structure Ze (K : PySem.W.Frag) (mg : Str → Option Value) (C : Addr) : Prop where
  xC : PySem.W.excIn K C [.type "ValueError", .type "Exception", .type "BaseException", .type "object"] "ValueError.__new__" = true
  gC : mg "NotNow" = some (.ref C)
  kC : PySem.W.keepIn K (.ref C) = true
  bC : PySem.W.subIn K (.ref C) (.type "BaseException") = some true
  tC : PySem.W.typeIn K (.ref C) = some (.type "type")
section
variable {X : Cx}
theorem op_mulB : OpR X (binaryOp .Mult) (rI IntMulOk fun i j => .int (i * j)) := opI fun _ _ _ _ _ _ _ hc q => mul_int q hc
theorem op_pow2 : OpR X (binaryOp .Pow) (rI (fun a n => 0 ≤ n ∧ (Builtin.Int.intBits a : Int) * n ≤ 2 ^ 27) fun i j => .int (i ^ j.toNat)) := opI fun _ _ _ _ _ _ _ hc q => pow_int hc.1 hc.2 q
end
section
variable {X : Cx} {K : PySem.W.Frag}
theorem ix_listK (h : X.K = K) : IxR X (rIxL K) := h ▸ ix_list
theorem ix_tupK (h : X.K = K) : IxR X (rIxT K) := h ▸ ix_tup
theorem op_eqK (h : X.K = K) (hu : X.A.units + 64 < cLine) : OpR X (compareOp .Eq) (rEqD K) := h ▸ op_eqD hu
theorem op_neK (h : X.K = K) (hu : X.A.units + 64 < cLine) : OpR X (compareOp .NotEq) (rNeD K) := h ▸ op_neD hu
theorem op_inK (h : X.K = K) : OpR X (compareOp .In) (rIn K false) := h ▸ op_in_seq
theorem op_ninK (h : X.K = K) : OpR X (compareOp .NotIn) (rIn K true) := h ▸ op_notIn_seq
theorem op_catK (h : X.K = K) : OpR X (binaryOp .Add) (rCatA K) := h ▸ op_catA
theorem op_ltK (h : X.K = K) (hu : X.A.units < cLine) : OpR X (compareOp .Lt) (rLtT K) := h ▸ op_ltT hu
theorem op_repK (h : X.K = K) : OpR X (binaryOp .Mult) (rRepT K) := h ▸ op_repT
theorem sl_listK (h : X.K = K) : SlR X (rSlL K) := h ▸ sl_list
theorem sl_tupK (h : X.K = K) : SlR X (rSlA K) := h ▸ sl_tupA
theorem call_lenK (h : X.K = K) : CallR X (.builtin "len") (fun xs H Q => ∃ p ys, xs = [.ref p] ∧ (SqL K H p ys ∨ SqT K H p ys) ∧ Q (.int ys.length) H) := h ▸ call_len_seq
theorem call_tupleK (h : X.K = K) : CallR X (.type "tuple") (fun xs H Q => ∃ p ys, xs = [.ref p] ∧ ((SqL K H p ys ∧ ∀ l, H l = none → Q (.ref l) (upd H l (.tup ys))) ∨ (SqT K H p ys ∧ Q (.ref p) H))) := h ▸ call_tuple_of
theorem call_listK (h : X.K = K) : CallR X (.type "list") (fun xs H Q => ∃ p ys, xs = [.ref p] ∧ (SqL K H p ys ∨ SqT K H p ys) ∧ ∀ l, H l = none → Q (.ref l) (upd H l (.lst ys))) := h ▸ call_list_of
theorem cr_sortedK (h : X.K = K) : CallR X (.builtin "sorted") (rSortedI K) := h ▸ cr_sortedI
theorem cr_minK (h : X.K = K) (hc : X.calm = true) : CallR X (.builtin "min") (rMin K) := h ▸ cr_min hc
theorem cr_allK (h : X.K = K) (hc : X.calm = true) : CallR X (.builtin "all") (rAll K) := h ▸ cr_all hc
theorem call_isiK' (h : X.K = K) : CallR X (.builtin "isinstance") (rIsi K) := h ▸ call_isi
end
/-! ### data: equality, form -/
abbrev tI (ns : List Int) : PyData := .tuple (ns.map .int)
abbrev lI (ns : List Int) : PyData := .list (ns.map .int)
theorem sh_int (i : Int) : SeqAt.shaped (.int i) = true := rfl
theorem sh_bool (b : Bool) : SeqAt.shaped (.bool b) = true := rfl
theorem sh_tI (ns : List Int) : SeqAt.shaped (tI ns) = true := by
  simp [SeqAt.shaped, PyData.canLay0, PyData.depth, PySem.W.ke_canLayAll0, PySem.W.ke_depthAll]
theorem sh_lI (ns : List Int) : SeqAt.shaped (lI ns) = true := by
  simp [SeqAt.shaped, PyData.canLay0, PyData.depth, PySem.W.ke_canLayAll0, PySem.W.ke_depthAll]
theorem eqv_int (i j : Int) : PyData.eqv (.int i) (.int j) = decide (i = j) := by
  simp [PyData.eqv]
  by_cases h : i = j <;> simp [h]
theorem eqv_bool (a b : Bool) : PyData.eqv (.bool a) (.bool b) = (a == b) := by
  cases a <;> cases b <;> simp [PyData.eqv]
theorem eqvAll_ints : ∀ ns ms : List Int, PyData.eqvAll (ns.map .int) (ms.map .int) = decide (ns = ms)
  | [], [] => by simp [PyData.eqvAll]
  | [], _ :: _ => by simp [PyData.eqvAll]
  | _ :: _, [] => by simp [PyData.eqvAll]
  | a :: r, b :: t => by
    rw [List.map_cons, List.map_cons, PyData.eqvAll, eqv_int, eqvAll_ints r t]
    by_cases h : a = b <;> by_cases h' : r = t <;> simp [h, h']
theorem eqv_tI (ns ms : List Int) : PyData.eqv (tI ns) (tI ms) = decide (ns = ms) := by
  show PyData.eqv (.tuple _) (.tuple _) = _
  rw [PyData.eqv, eqvAll_ints]
theorem eqv_lI (ns ms : List Int) : PyData.eqv (lI ns) (lI ms) = decide (ns = ms) := by
  show PyData.eqv (.list _) (.list _) = _
  rw [PyData.eqv, eqvAll_ints]
section
variable {K : PySem.W.Frag} {r : Rho} {ta tb : TE} {ns ms : List Int} {i j : Int}
theorem ev_eqI (ha : EvD K ta r (.int i)) (hb : EvD K tb r (.int j)) : EvD K (tOp (rEqD K) ta tb) r (.bool (decide (i = j))) := by
  rw [← eqv_int]; exact ev_eq ha.toH hb.toH rfl rfl
theorem ev_eqB {a b : Bool} (ha : EvD K ta r (.bool a)) (hb : EvD K tb r (.bool b)) : EvD K (tOp (rEqD K) ta tb) r (.bool (a == b)) := by
  rw [← eqv_bool]; exact ev_eq ha.toH hb.toH rfl rfl
theorem ev_neI (ha : EvD K ta r (.int i)) (hb : EvD K tb r (.int j)) : EvD K (tOp (rNeD K) ta tb) r (.bool (!decide (i = j))) := by
  rw [← eqv_int]; exact ev_ne ha.toH hb.toH rfl rfl
theorem ev_eqT (ha : EvD K ta r (tI ns)) (hb : EvD K tb r (tI ms)) : EvD K (tOp (rEqD K) ta tb) r (.bool (decide (ns = ms))) := by
  rw [← eqv_tI]; exact ev_eq ha.toH hb.toH (sh_tI _) (sh_tI _)
theorem ev_neT (ha : EvD K ta r (tI ns)) (hb : EvD K tb r (tI ms)) : EvD K (tOp (rNeD K) ta tb) r (.bool (!decide (ns = ms))) := by
  rw [← eqv_tI]; exact ev_ne ha.toH hb.toH (sh_tI _) (sh_tI _)
theorem ev_eqL (ha : EvL K ta r (ns.map .int)) (hb : EvL K tb r (ms.map .int)) : EvD K (tOp (rEqD K) ta tb) r (.bool (decide (ns = ms))) := by
  rw [← eqv_lI]; exact ev_eq ha.toH hb.toH (sh_lI _) (sh_lI _)
theorem ev_add (ha : EvD K ta r (.int i)) (hb : EvD K tb r (.int j)) : EvD K (tOp (rI0 fun i j => .int (i + j)) ta tb) r (.int (i + j)) := ev_I0 ha hb fun _ => .int _
theorem ev_sub (ha : EvD K ta r (.int i)) (hb : EvD K tb r (.int j)) : EvD K (tOp (rI0 fun i j => .int (i - j)) ta tb) r (.int (i - j)) := ev_I0 ha hb fun _ => .int _
theorem ev_mod (ha : EvD K ta r (.int i)) (hb : EvD K tb r (.int j)) (hc : 0 < j) : EvD K (tOp (rI (fun _ j => 0 < j) fun i j => .int (i % j)) ta tb) r (.int (i % j)) := ev_I ha hb hc fun _ => .int _
theorem ev_pow (ha : EvD K ta r (.int i)) (hb : EvD K tb r (.int j)) (h0 : 0 ≤ j) (hz : (Builtin.Int.intBits i : Int) * j ≤ 2 ^ 27) : EvD K (tOp (rI (fun a n => 0 ≤ n ∧ (Builtin.Int.intBits a : Int) * n ≤ 2 ^ 27) fun i j => .int (i ^ j.toNat)) ta tb) r (.int (i ^ j.toNat)) := ev_I ha hb ⟨h0, hz⟩ fun _ => .int _
theorem ev_div (ha : EvD K ta r (.int i)) (hb : EvD K tb r (.int j)) (hc : 0 < j ∧ j < 1073741824) : EvD K (tOp (rI CDiv fun i j => .int (i / j)) ta tb) r (.int (i / j)) := ev_I ha hb hc fun _ => .int _
theorem ev_mul (ha : EvD K ta r (.int i)) (hb : EvD K tb r (.int j)) (hc : IntMulOk i j) : EvD K (tOp (rI IntMulOk fun i j => .int (i * j)) ta tb) r (.int (i * j)) := ev_I ha hb hc fun _ => .int _
theorem ev_lt (ha : EvD K ta r (.int i)) (hb : EvD K tb r (.int j)) : EvD K (tOp (rI0 fun i j => .bl (decide (i < j))) ta tb) r (.bool (decide (i < j))) := ev_I0 ha hb fun _ => .bl _
theorem ev_le (ha : EvD K ta r (.int i)) (hb : EvD K tb r (.int j)) : EvD K (tOp (rI0 fun i j => .bl (decide (i ≤ j))) ta tb) r (.bool (decide (i ≤ j))) := ev_I0 ha hb fun _ => .bl _
theorem ev_gt (ha : EvD K ta r (.int i)) (hb : EvD K tb r (.int j)) : EvD K (tOp (rI0 fun i j => .bl (decide (j < i))) ta tb) r (.bool (decide (j < i))) := ev_I0 ha hb fun _ => .bl _
theorem ev_ge (ha : EvD K ta r (.int i)) (hb : EvD K tb r (.int j)) : EvD K (tOp (rI0 fun i j => .bl (decide (j ≤ i))) ta tb) r (.bool (decide (j ≤ i))) := ev_I0 ha hb fun _ => .bl _
theorem ev_neg (ha : EvD K ta r (.int i)) : EvD K (tUn (rU fun i => .int (-i)) ta) r (.int (-i)) := ev_un ha fun x B H _ h Q k => by
  cases h
  exact ⟨i, rfl, k _ (.int _)⟩
theorem ev_t1 (ha : EvD K ta r (.int i)) : EvD K (tTup (tCons ta tNil)) r (tI [i]) := ev_tup (ea_cons ha ea_nil) (Nat.le_trans (show 1 ≤ 100000 by decide) (by decide))
/-- sorted ints -/
def ins (x : Int) : List Int → List Int
  | [] => [x]
  | y :: l => if x ≤ y then x :: y :: l else y :: ins x l
def isort : List Int → List Int
  | [] => []
  | x :: l => ins x (isort l)
theorem ins_perm (x : Int) : ∀ l : List Int, (ins x l).Perm (x :: l)
  | [] => .refl _
  | y :: l => by
    unfold ins
    split
    · exact .refl _
    · exact (List.Perm.cons y (ins_perm x l)).trans (.swap x y l)
theorem isort_perm : ∀ l : List Int, (isort l).Perm l
  | [] => .refl _
  | x :: l => (ins_perm x _).trans (List.Perm.cons x (isort_perm l))
theorem ins_mem {x z : Int} {l : List Int} : z ∈ ins x l ↔ z = x ∨ z ∈ l := by
  rw [(ins_perm x l).mem_iff, List.mem_cons]
theorem ins_pw (x : Int) : ∀ l : List Int, l.Pairwise (· ≤ ·) → (ins x l).Pairwise (· ≤ ·)
  | [], _ => by unfold ins; exact List.pairwise_singleton _ _
  | y :: l, h => by
    unfold ins
    rw [List.pairwise_cons] at h
    split
    · rename_i hxy
      rw [List.pairwise_cons, List.pairwise_cons]
      refine ⟨fun a ha => ?_, h⟩
      rcases List.mem_cons.mp ha with rfl | ha
      · exact hxy
      · exact Int.le_trans hxy (h.1 a ha)
    · rename_i hxy
      rw [List.pairwise_cons]
      refine ⟨fun a ha => ?_, ins_pw x l h.2⟩
      rcases ins_mem.mp ha with rfl | ha
      · omega
      · exact h.1 a ha
theorem isort_pw : ∀ l : List Int, (isort l).Pairwise (· ≤ ·)
  | [] => .nil
  | x :: l => ins_pw x _ (isort_pw l)
theorem pw_perm_eq : ∀ {l m : List Int}, l.Pairwise (· ≤ ·) → m.Pairwise (· ≤ ·) → l.Perm m → l = m
  | [], m, _, _, p => (List.nil_perm.mp p).symm
  | a :: l, [], _, _, p => by have := p.length_eq; simp at this
  | a :: l, b :: m, h1, h2, p => by
    rw [List.pairwise_cons] at h1 h2
    have e : a = b := by
      have ha : a ∈ b :: m := p.mem_iff.mp List.mem_cons_self
      have hb : b ∈ a :: l := p.mem_iff.mpr List.mem_cons_self
      rcases List.mem_cons.mp ha with e | ha
      · exact e
      rcases List.mem_cons.mp hb with e | hb
      · exact e.symm
      exact Int.le_antisymm (h1.1 b hb) (h2.1 a ha)
    subst e
    rw [pw_perm_eq h1.2 h2.2 (List.perm_cons a |>.mp p)]
theorem isort_eq {l m : List Int} (h : m.Pairwise (· ≤ ·)) (p : m.Perm l) : isort l = m := pw_perm_eq (isort_pw l) h ((isort_perm l).trans p.symm)
theorem ev_sorted (ha : EvL K ta r (ns.map .int)) : EvN K (tCB (rSortedI K) (tCons ta tNil)) r ((isort ns).map .int) :=
  ev_cb1N ha fun x B H i ⟨a, xs, h1, h2, h3⟩ Q k => ⟨a, ns, by rw [h1], by rw [← dpa_ints_inv h3]; exact h2, fun ns' p q1 q2 hp => k p _ hp (by rw [isort_eq q2 q1]; exact dpa_ints _)⟩
end
/-! ### parts of lists -/
theorem cut_lo {xs : List PyData} {k : Nat} : cutD xs (some (k : Int)) none = xs.drop k := by
  unfold cutD
  rw [HT.sIx_nat, HT.sIx_none]
  by_cases h : k ≤ xs.length
  · rw [Nat.min_eq_left h]
    exact List.take_of_length_le (by rw [List.length_drop]; exact Nat.le_refl _)
  · rw [Nat.min_eq_right (by omega), Nat.sub_self, List.take_zero, List.drop_eq_nil_of_le (by omega)]
theorem cut_hi {xs : List PyData} {k : Nat} : cutD xs none (some (k : Int)) = xs.take k := by
  unfold cutD
  rw [HT.sIx_nat, HT.sIx_none, List.drop_zero, Nat.sub_zero]
  by_cases h : k ≤ xs.length
  · rw [Nat.min_eq_left h]
  · rw [Nat.min_eq_right (by omega), List.take_length, List.take_of_length_le (by omega)]
theorem cut_mid {xs : List PyData} {a b : Nat} : cutD xs (some (a : Int)) (some (b : Int)) = (xs.take b).drop a := by
  unfold cutD
  rw [HT.sIx_nat, HT.sIx_nat]
  rw [List.drop_take]
  by_cases h : a ≤ xs.length
  · rw [Nat.min_eq_left h]
    by_cases h2 : b ≤ xs.length
    · rw [Nat.min_eq_left h2]
    · rw [Nat.min_eq_right (by omega), List.take_of_length_le (by rw [List.length_drop]; exact Nat.le_refl _), List.take_of_length_le (by rw [List.length_drop]; omega)]
  · rw [Nat.min_eq_right (by omega : xs.length ≤ a), List.drop_eq_nil_of_le (Nat.le_refl _), List.drop_eq_nil_of_le (by omega : xs.length ≤ a)]
    simp
theorem cutD_len (xs : List PyData) (lo hi : Option Int) : (cutD xs lo hi).length ≤ xs.length := by
  unfold cutD
  rw [List.length_take, List.length_drop]
  omega
theorem cutD_mem {xs : List PyData} {lo hi : Option Int} {d : PyData} (h : d ∈ cutD xs lo hi) : d ∈ xs := List.mem_of_mem_drop (List.mem_of_mem_take h)
theorem put_eq {xs : List PyData} {k : Nat} {d : PyData} (h : k < xs.length) : cutD xs none (some (k : Int)) ++ [d] ++ cutD xs (some ((k : Int) + 1)) none = xs.set k d := by
  have e : ((k : Int) + 1) = ((k + 1 : Nat) : Int) := by omega
  rw [e, cut_lo, cut_hi, List.set_eq_take_append_cons_drop, if_pos h, List.append_assoc]
  rfl
theorem at_ints {ns : List Int} {i x : Int} (h : atI ns i = some x) : atI (ns.map PyData.int) i = some (.int x) := by
  unfold atI at h ⊢
  rw [List.length_map]
  cases q : ixN ns.length i with
  | none => rw [q] at h; cases h
  | some j =>
    rw [q] at h
    show (ns.map PyData.int)[j]? = _
    rw [List.getElem?_map, show ns[j]? = some x from h]; rfl
theorem at_nn {ns : List Int} {i : Int} (h0 : 0 ≤ i) (h1 : i < ns.length) : atI (ns.map PyData.int) i = some (.int (ns.getD i.toNat 0)) := by
  refine at_ints ?_
  unfold atI ixN
  rw [if_pos h0, if_pos h1]
  show ns[i.toNat]? = _
  rw [List.getD_eq_getElem?_getD, List.getElem?_eq_getElem (by omega)]; rfl
theorem at_last {ns : List Int} (h1 : 0 < ns.length) : atI (ns.map PyData.int) (-1) = some (.int (ns.getD (ns.length - 1) 0)) := by
  refine at_ints ?_
  unfold atI ixN
  rw [if_neg (by omega), if_pos (by omega)]
  show ns[_]? = _
  rw [show ((-1 : Int) + (ns.length : Int)).toNat = ns.length - 1 by omega, List.getD_eq_getElem?_getD, List.getElem?_eq_getElem (by omega)]; rfl
theorem szI {n : Nat} (h : n ≤ 100000) : n ≤ sizeLine := Nat.le_trans h (by decide)
theorem szlt {n : Nat} (h : n < 100000) : n < sizeLine := Nat.lt_of_lt_of_le h (by decide)
theorem mulR {a b : Int} (h1 : -(2 ^ 64) < b) (h2 : b < 2 ^ 64) : IntMulOk a b := IntMulOk.of_right (intBits_le_64 h1 h2)
theorem mulL {a b : Int} (h1 : -(2 ^ 64) < a) (h2 : a < 2 ^ 64) : IntMulOk a b := IntMulOk.of_left (intBits_le_64 h1 h2)
end Od

namespace Od
open PySem PySem.Spec PyProof.Rows L2

/-! ### the script's cells -/
def cell (ns : List Int) (k : Int) : Int := ns.getD k.toNat 0
def mix (c p m : Int) : Int := c * 48271 % p % m
def many (ns : List Int) : Int := 2 + mix (cell ns 0) 9973 7
def size (ns : List Int) : Int := many ns + mix (cell ns 0) 9967 (21 - many ns)
def state (ns : List Int) : List Int := (irange 0 (many ns).toNat).map fun k => mix (cell ns 1 + 31 * k) 9949 (size ns)
theorem mix_lo {c p m : Int} (h : 0 < m) : 0 ≤ mix c p m := Int.emod_nonneg _ (by omega)
theorem mix_hi {c p m : Int} (h : 0 < m) : mix c p m < m := Int.emod_lt_of_pos _ h
theorem many_b (ns : List Int) : 2 ≤ many ns ∧ many ns ≤ 8 := by
  have h1 := mix_lo (c := cell ns 0) (p := 9973) (m := 7) (by omega)
  have h2 := mix_hi (c := cell ns 0) (p := 9973) (m := 7) (by omega)
  unfold many
  omega
theorem size_b (ns : List Int) : many ns ≤ size ns ∧ size ns ≤ 20 := by
  have hm := many_b ns
  have h1 := mix_lo (c := cell ns 0) (p := 9967) (m := 21 - many ns) (by omega)
  have h2 := mix_hi (c := cell ns 0) (p := 9967) (m := 21 - many ns) (by omega)
  unfold size
  omega
theorem state_len (ns : List Int) : (state ns).length = (many ns).toNat := by unfold state; rw [List.length_map, irange_len]
def F__law_cell : List PyData → PyData → Prop := fun ds d => ∃ ns k, ds = [lI ns, .int k] ∧ 0 ≤ k ∧ d = .int (cell ns k)
def F__law_mix : List PyData → PyData → Prop := fun ds d => ∃ c p m, ds = [.int c, .int p, .int m] ∧ 0 < p ∧ 0 < m ∧ d = .int (mix c p m)
def F__law_size : List PyData → PyData → Prop := fun ds d => ∃ ns, ds = [lI ns] ∧ d = .int (size ns)
def F__law_state : List PyData → PyData → Prop := fun ds d => ∃ ns, ds = [lI ns] ∧ d = tI (state ns)
theorem L__law_cell : ∀ ds d, F__law_cell ds d → ds.length = 2 := fun _ _ ⟨_, _, e, _⟩ => by rw [e]; rfl
theorem L__law_mix : ∀ ds d, F__law_mix ds d → ds.length = 3 := fun _ _ ⟨_, _, _, e, _⟩ => by rw [e]; rfl
theorem L__law_size : ∀ ds d, F__law_size ds d → ds.length = 1 := fun _ _ ⟨_, e, _⟩ => by rw [e]; rfl
theorem L__law_state : ∀ ds d, F__law_state ds d → ds.length = 1 := fun _ _ ⟨_, e, _⟩ => by rw [e]; rfl
section
variable {K : PySem.W.Frag} {r : Rho} {t ta tb tc : TE} {X : XK} {ns : List Int} {k c p m : Int}
theorem cv_cell (h1 : EvD K ta r (lI ns)) (h2 : EvD K tb r (.int k)) (h0 : 0 ≤ k) : EvD K (tCall (spR K F__law_cell) [] X (tCons ta (tCons tb tNil))) r (.int (cell ns k)) := ev_call (ea_cons h1 (ea_cons h2 ea_nil)) ⟨ns, k, rfl, h0, rfl⟩
theorem cv_mix (h1 : EvD K ta r (.int c)) (h2 : EvD K tb r (.int p)) (h3 : EvD K tc r (.int m)) (hp : 0 < p) (hm : 0 < m) : EvD K (tCall (spR K F__law_mix) [] X (tCons ta (tCons tb (tCons tc tNil)))) r (.int (mix c p m)) := ev_call (ea_cons h1 (ea_cons h2 (ea_cons h3 ea_nil))) ⟨c, p, m, rfl, hp, hm, rfl⟩
theorem cv_size (h1 : EvD K ta r (lI ns)) : EvD K (tCall (spR K F__law_size) [] X (tCons ta tNil)) r (.int (size ns)) := ev_call (ea_cons h1 ea_nil) ⟨ns, rfl, rfl⟩
theorem cv_state (h1 : EvD K ta r (lI ns)) : EvD K (tCall (spR K F__law_state) [] X (tCons ta tNil)) r (tI (state ns)) := ev_call (ea_cons h1 ea_nil) ⟨ns, rfl, rfl⟩
end
/-! ### the ring -/
def hasMark (s : List Int) (h : Int) : Bool := if h = 0 then decide (s.getD 0 0 = s.getD (s.length - 1) 0) else !decide (s.getD h.toNat 0 = s.getD (h.toNat - 1) 0)
def marks (s : List Int) : List Int := (irange 0 s.length).filter (hasMark s)
def newNum (s : List Int) (z h : Int) : Int := if h = 0 then (s.getD 0 0 + 1) % z else s.getD (h.toNat - 1) 0
def moved (s : List Int) (z h : Int) : List Int := s.set h.toNat (newNum s z h)
def shifted (s : List Int) (z by_ : Int) : List Int := s.map fun x => (x + by_) % z
theorem marks_mem {s : List Int} {h : Int} : h ∈ marks s ↔ 0 ≤ h ∧ h < s.length ∧ hasMark s h = true := by
  unfold marks
  rw [List.mem_filter, irange_mem]
  constructor
  · rintro ⟨⟨h1, h2⟩, h3⟩; exact ⟨h1, by omega, h3⟩
  · rintro ⟨h1, h2, h3⟩; exact ⟨⟨h1, by omega⟩, h3⟩
theorem moved_len {s : List Int} {z h : Int} : (moved s z h).length = s.length := List.length_set
theorem shifted_len {s : List Int} {z h : Int} : (shifted s z h).length = s.length := List.length_map _
def F_has_mark : List PyData → PyData → Prop := fun ds d => ∃ s h, ds = [tI s, .int h] ∧ 0 ≤ h ∧ h < (s.length : Int) ∧ d = .bool (hasMark s h)
def F_marked : List PyData → PyData → Prop := fun ds d => ∃ s, ds = [tI s] ∧ s.length ≤ 1000 ∧ d = tI (marks s)
def F_moved : List PyData → PyData → Prop := fun ds d => ∃ s z h, ds = [tI s, .int z, .int h] ∧ h ∈ marks s ∧ 0 < z ∧ s.length ≤ 1000 ∧ d = tI (moved s z h)
def R_moved : List PyData → Prop := fun ds => ∃ s z h, ds = [tI s, .int z, .int h] ∧ h ∉ marks s ∧ s.length ≤ 1000
def F_shifted : List PyData → PyData → Prop := fun ds d => ∃ s z b, ds = [tI s, .int z, .int b] ∧ 0 < z ∧ s.length ≤ 1000 ∧ d = tI (shifted s z b)
theorem L_has_mark : ∀ ds d, F_has_mark ds d → ds.length = 2 := fun _ _ ⟨_, _, e, _⟩ => by rw [e]; rfl
theorem L_marked : ∀ ds d, F_marked ds d → ds.length = 1 := fun _ _ ⟨_, e, _⟩ => by rw [e]; rfl
theorem L_moved : ∀ ds d, F_moved ds d → ds.length = 3 := fun _ _ ⟨_, _, _, e, _⟩ => by rw [e]; rfl
theorem LR_moved : ∀ ds, R_moved ds → ds.length = 3 := fun _ ⟨_, _, _, e, _⟩ => by rw [e]; rfl
theorem L_shifted : ∀ ds d, F_shifted ds d → ds.length = 3 := fun _ _ ⟨_, _, _, e, _⟩ => by rw [e]; rfl
section
variable {K : PySem.W.Frag} {r : Rho} {t ta tb tc : TE} {X : XK} {s : List Int} {z h b : Int} {C : Addr}
theorem cv_has_mark (h1 : EvD K ta r (tI s)) (h2 : EvD K tb r (.int h)) (q0 : 0 ≤ h) (q1 : h < (s.length : Int)) : EvD K (tCall (spR K F_has_mark) [] X (tCons ta (tCons tb tNil))) r (.bool (hasMark s h)) := ev_call (ea_cons h1 (ea_cons h2 ea_nil)) ⟨s, h, rfl, q0, q1, rfl⟩
theorem cv_marked (h1 : EvD K ta r (tI s)) (q : s.length ≤ 1000) : EvD K (tCall (spR K F_marked) [] X (tCons ta tNil)) r (tI (marks s)) := ev_call (ea_cons h1 ea_nil) ⟨s, rfl, q, rfl⟩
theorem cv_moved (h1 : EvD K ta r (tI s)) (h2 : EvD K tb r (.int z)) (h3 : EvD K tc r (.int h)) (q : h ∈ marks s) (q1 : 0 < z) (q2 : s.length ≤ 1000) : EvD K (tCall (spX K C F_moved R_moved) [] X (tCons ta (tCons tb (tCons tc tNil)))) r (tI (moved s z h)) := ev_callX (ea_cons h1 (ea_cons h2 (ea_cons h3 ea_nil))) ⟨s, z, h, rfl, q, q1, q2, rfl⟩
theorem cv_shifted (h1 : EvD K ta r (tI s)) (h2 : EvD K tb r (.int z)) (h3 : EvD K tc r (.int b)) (q1 : 0 < z) (q2 : s.length ≤ 1000) : EvD K (tCall (spR K F_shifted) [] X (tCons ta (tCons tb (tCons tc tNil)))) r (tI (shifted s z b)) := ev_call (ea_cons h1 (ea_cons h2 (ea_cons h3 ea_nil))) ⟨s, z, b, rfl, q1, q2, rfl⟩
end
end Od

namespace Od
open PySem PySem.Spec PyProof.Rows L2

/-! ### lists -/
theorem ext_getD {l m : List Int} (hl : l.length = m.length) (h : ∀ i, i < l.length → l.getD i 0 = m.getD i 0) : l = m := by
  refine List.ext_getElem hl fun i h1 h2 => ?_
  have q := h i h1
  rw [List.getD_eq_getElem?_getD, List.getD_eq_getElem?_getD, List.getElem?_eq_getElem h1, List.getElem?_eq_getElem h2] at q
  exact q
theorem getD_set {l : List Int} {i j : Nat} {x : Int} (hi : i < l.length) : (l.set i x).getD j 0 = if j = i then x else l.getD j 0 := by
  rw [List.getD_eq_getElem?_getD, List.getD_eq_getElem?_getD, List.getElem?_set]
  by_cases h : j = i
  · subst h; rw [if_pos rfl, if_pos rfl, if_pos hi]; rfl
  · rw [if_neg h, if_neg (fun z => h z.symm)]
theorem getD_map {f : Int → Int} {l : List Int} {i : Nat} (hi : i < l.length) : (l.map f).getD i 0 = f (l.getD i 0) := by
  rw [List.getD_eq_getElem?_getD, List.getD_eq_getElem?_getD, List.getElem?_map, List.getElem?_eq_getElem hi]; rfl
theorem getD_irange {lo : Int} {n i : Nat} (hi : i < n) : (irange lo n).getD i 0 = lo + i := by
  rw [List.getD_eq_getElem?_getD, irange_get hi]; rfl
theorem getD_mapr {f : Int → Int} {n i : Nat} (hi : i < n) : ((irange 0 n).map f).getD i 0 = f i := by
  rw [getD_map (by rw [irange_len]; exact hi), getD_irange hi, Int.zero_add]
theorem getD_mem {l : List Int} {i : Nat} (hi : i < l.length) : l.getD i 0 ∈ l := by
  rw [List.getD_eq_getElem?_getD, List.getElem?_eq_getElem hi]
  exact List.getElem_mem hi
theorem sorted_ext : ∀ {l m : List Int}, l.Pairwise (· < ·) → m.Pairwise (· < ·) → (∀ x, x ∈ l ↔ x ∈ m) → l = m
  | [], [], _, _, _ => rfl
  | [], b :: m, _, _, h => by have := (h b).mpr List.mem_cons_self; cases this
  | a :: l, [], _, _, h => by have := (h a).mp List.mem_cons_self; cases this
  | a :: l, b :: m, h1, h2, h => by
    rw [List.pairwise_cons] at h1 h2
    have e : a = b := by
      rcases List.mem_cons.mp ((h a).mp List.mem_cons_self) with e | ha
      · exact e
      rcases List.mem_cons.mp ((h b).mpr List.mem_cons_self) with e | hb
      · exact e.symm
      have := h1.1 b hb
      have := h2.1 a ha
      omega
    subst e
    rw [sorted_ext h1.2 h2.2 fun x => ?_]
    constructor
    · intro hx
      rcases List.mem_cons.mp ((h x).mp (List.mem_cons_of_mem _ hx)) with e | hx'
      · subst e; have := h1.1 x hx; omega
      · exact hx'
    · intro hx
      rcases List.mem_cons.mp ((h x).mpr (List.mem_cons_of_mem _ hx)) with e | hx'
      · subst e; have := h2.1 x hx; omega
      · exact hx'
theorem irange_pw {lo : Int} {n : Nat} : (irange lo n).Pairwise (· < ·) := by
  unfold irange
  rw [List.pairwise_map]
  exact List.pairwise_lt_range.imp fun h => by omega
theorem filter_pw {lo : Int} {n : Nat} {p : Int → Bool} : ((irange lo n).filter p).Pairwise (· < ·) := irange_pw.filter p
theorem filter_single {n : Nat} {p : Int → Bool} {h : Int} (h0 : 0 ≤ h) (h1 : h < n) (hp : ∀ k : Int, 0 ≤ k → k < n → (p k = true ↔ k = h)) : (irange 0 n).filter p = [h] :=
  sorted_ext filter_pw (List.pairwise_singleton _ _) fun x => by
    rw [List.mem_filter, irange_mem, List.mem_singleton]
    constructor
    · rintro ⟨⟨a, b⟩, c⟩
      exact (hp x a (by omega)).mp c
    · rintro rfl
      exact ⟨⟨h0, by omega⟩, (hp x h0 h1).mpr rfl⟩
theorem irange_succ {n : Nat} : irange 0 (n + 1) = irange 0 n ++ [(n : Int)] := by
  unfold irange
  rw [List.range_succ, List.map_append]
  show _ ++ [0 + (n : Int)] = _
  rw [Int.zero_add]
theorem filt_yes {p : Int → Bool} {l : List Int} {x : Int} (h : p x = true) : (l ++ [x]).filter p = l.filter p ++ [x] := by
  rw [List.filter_append, List.filter_cons_of_pos h, List.filter_nil]
theorem filt_no {p : Int → Bool} {l : List Int} {x : Int} (h : p x = false) : (l ++ [x]).filter p = l.filter p := by
  rw [List.filter_append, List.filter_cons_of_neg (by rw [h]; exact Bool.false_ne_true), List.filter_nil, List.append_nil]
end Od

namespace Od
open PySem PySem.Spec PyProof.Rows L2

/-! ### kinds -/
def tyD : PyData → String
  | .none => "NoneType"
  | .bool _ => "bool"
  | .int _ => "int"
  | .str _ => "str"
  | .list _ => "list"
  | .tuple _ => "tuple"
  | .dict _ => "dict"
section
variable {K : PySem.W.Frag} {r : Rho} {d : PyData} {te ta tb : TE}
theorem dp_ty {H : Hp} {v : V} (h : Dp K H v d) : TyX K H v (.type (tyD d)) := by
  cases h with
  | non => exact .base .non
  | bl b => exact .base (.bl b)
  | int i => exact .base (.int i)
  | str x => exact .base (.str x)
  | lst hs _ =>
    rcases hs with (h | ⟨o, h⟩) | ⟨o, its, n, h1, h2, _⟩
    · exact .base (.lst h)
    · exact .base (.frz h)
    · exact .kList h1 h2
  | tup hs _ =>
    rcases hs with (h | ⟨o, h⟩) | ⟨o, its, n, h1, h2, _⟩
    · exact .base (.tup h)
    · exact .fTuple h
    · exact .kTuple h1 h2
theorem ev_isi {T : String} {b : Bool} (ha : EvH K ta r d) (hk : kitB (tyD d) T = some b) : EvD K (tCB (rIsi K) (tCons ta (tCons (tC (.ty T)) tNil))) r (.bool b) := fun B H s E Q k =>
  ha B H s E _ fun v B1 H1 x1 h1 => ⟨v, .ty T, _, _, b, rfl, .ty T, dp_ty h1, kit_ty hk, k _ B1 H1 x1 (.bl b)⟩
theorem kit_tt : kitB "tuple" "tuple" = some true := by decide +kernel
theorem ev_isN {a b : Bool} (ha : EvD K ta r (.bool a)) (hb : EvD K tb r (.bool b)) : EvD K (tOp rNotB ta tb) r (.bool (!decide (a = b))) := ev_flat mD ha hb fun x y B H i h1 h2 Q k => by
  cases h1; cases h2
  exact ⟨a, b, rfl, rfl, k _ (.bl _)⟩
theorem ev_listRg {n : Int} (ha : EvD K ta r (.int n)) (h0 : 0 ≤ n) (h1 : n ≤ 100000) : EvN K (tLstRg (tRg1 ta)) r ((irange 0 n.toNat).map .int) := fun B H s E Q k =>
  ha B H s E _ fun v B1 H1 x1 h => by
    cases h
    refine ⟨n, rfl, .of_le (by omega) (by omega) (by omega) (by omega), fun q hq => ?_⟩
    refine k q _ B1 _ (x1.trans (.skip x1.i hq)) (x1.h.free hq) upd_same (x1.i.free hq) ?_
    have e : rgV 0 n = (irange 0 n.toNat).map V.int := by
      unfold rgV irange
      rw [List.map_map, Int.sub_zero]; rfl
    rw [e]
    exact dpa_ints _
end
end Od

namespace Od
open PySem PySem.Spec PyProof.Rows L2

/-! ### nets -/
abbrev at_ (xs : List Int) (h : Int) : Int := xs.getD h.toNat 0
abbrev eD (p : Int × Int) : PyData := .tuple [.int p.1, .int p.2]
abbrev nD (m : Int) (es : List (Int × Int)) : PyData := .tuple [.int m, .tuple (es.map eD)]
structure Net (m : Int) (es : List (Int × Int)) : Prop where
  lo : 1 ≤ m
  hi : m ≤ 8
  ed : ∀ p ∈ es, 0 ≤ p.1 ∧ p.1 < p.2 ∧ p.2 < m
  ln : es.length ≤ 1000
  nd : es.Nodup
def nmany (ns : List Int) : Int := 1 + mix (cell ns 0) 9973 8
def nshare (ns : List Int) : Int := mix (cell ns 0) 9967 8
def npick (ns : List Int) (a b : Int) : Bool := decide (mix (cell ns 1 + 131 * a + 17 * b) 9949 9 < nshare ns)
def nrow (ns : List Int) (a : Int) : List (Int × Int) := ((irange (a + 1) (nmany ns - (a + 1)).toNat).filter (npick ns a)).map fun b => (a, b)
def nedges (ns : List Int) : List (Int × Int) := (irange 0 (nmany ns).toNat).flatMap (nrow ns)
theorem nmany_b (ns : List Int) : 1 ≤ nmany ns ∧ nmany ns ≤ 8 := by
  have h1 := mix_lo (c := cell ns 0) (p := 9973) (m := 8) (by omega)
  have h2 := mix_hi (c := cell ns 0) (p := 9973) (m := 8) (by omega)
  unfold nmany
  omega
theorem nrow_len (ns : List Int) {a : Int} (h : 0 ≤ a) : (nrow ns a).length ≤ 8 := by
  have := nmany_b ns
  unfold nrow
  rw [List.length_map]
  have h2 := List.length_filter_le (npick ns a) (irange (a + 1) (nmany ns - (a + 1)).toNat)
  rw [irange_len] at h2
  omega
theorem flat_len {f : Int → List (Int × Int)} {k : Nat} : ∀ {l : List Int}, (∀ a ∈ l, (f a).length ≤ k) → (l.flatMap f).length ≤ l.length * k
  | [], _ => by simp
  | a :: l, h => by
    rw [List.flatMap_cons, List.length_append, List.length_cons, Nat.succ_mul]
    have := flat_len (l := l) fun b hb => h b (List.mem_cons_of_mem _ hb)
    have := h a List.mem_cons_self
    omega
theorem flat_nodup {f : Int → List (Int × Int)} (h1 : ∀ a, (f a).Nodup) (h2 : ∀ a, ∀ p ∈ f a, p.1 = a) : ∀ {l : List Int}, l.Nodup → (l.flatMap f).Nodup
  | [], _ => List.Pairwise.nil
  | a :: l, h => by
    rw [List.nodup_cons] at h
    rw [List.flatMap_cons, List.nodup_append]
    refine ⟨h1 a, flat_nodup h1 h2 h.2, fun p hp q hq e => ?_⟩
    obtain ⟨b, hb, hqb⟩ := List.mem_flatMap.mp hq
    have e1 := h2 a p hp
    have e2 := h2 b q hqb
    rw [← e, e1] at e2
    exact h.1 (by rw [e2]; exact hb)
theorem nedges_nodup (ns : List Int) : (nedges ns).Nodup := by
  refine flat_nodup (fun a => ?_) (fun a p hp => ?_) (irange_pw.imp fun h => by omega)
  · unfold nrow
    refine List.Pairwise.map _ (fun x y (h : x < y) e => ?_) filter_pw
    have : x = y := congrArg Prod.snd e
    omega
  · obtain ⟨b, hb, rfl⟩ := List.mem_map.mp hp
    rfl
theorem net_net (ns : List Int) : Net (nmany ns) (nedges ns) := by
  have hm := nmany_b ns
  refine ⟨hm.1, hm.2, fun p hp => ?_, ?_, nedges_nodup ns⟩
  · obtain ⟨a, ha, hp⟩ := List.mem_flatMap.mp hp
    have ha' := irange_mem.mp ha
    obtain ⟨b, hb, rfl⟩ := List.mem_map.mp hp
    have hb' := irange_mem.mp (List.mem_filter.mp hb).1
    show 0 ≤ a ∧ a < b ∧ b < nmany ns
    omega
  · have := flat_len (f := nrow ns) (k := 8) (l := irange 0 (nmany ns).toNat) fun a ha => nrow_len ns (by have := irange_mem.mp ha; omega)
    rw [irange_len] at this
    unfold nedges
    omega
def F__law_net : List PyData → PyData → Prop := fun ds d => ∃ ns, ds = [lI ns] ∧ d = nD (nmany ns) (nedges ns)
theorem L__law_net : ∀ ds d, F__law_net ds d → ds.length = 1 := fun _ _ ⟨_, e, _⟩ => by rw [e]; rfl
/-! ### neighbours -/
def nbe (h : Int) (p : Int × Int) : List Int := (if p.1 = h then [p.2] else []) ++ (if p.2 = h then [p.1] else [])
def nbr (es : List (Int × Int)) (h : Int) : List Int := es.flatMap (nbe h)
def nb (es : List (Int × Int)) (h : Int) : List Int := isort (nbr es h)
theorem nb_mem {es : List (Int × Int)} {h x : Int} : x ∈ nb es h ↔ (h, x) ∈ es ∨ (x, h) ∈ es := by
  unfold nb nbr
  rw [(isort_perm _).mem_iff, List.mem_flatMap]
  constructor
  · rintro ⟨⟨a, b⟩, hp, hx⟩
    unfold nbe at hx
    rcases List.mem_append.mp hx with q | q
    · split at q
      · rename_i e
        rw [List.mem_singleton] at q
        dsimp only at e q
        subst e q
        exact .inl hp
      · cases q
    · split at q
      · rename_i e
        rw [List.mem_singleton] at q
        dsimp only at e q
        subst e q
        exact .inr hp
      · cases q
  · rintro (hp | hp)
    · refine ⟨_, hp, ?_⟩
      unfold nbe
      rw [if_pos rfl]
      exact List.mem_append_left _ List.mem_cons_self
    · refine ⟨_, hp, ?_⟩
      unfold nbe
      rw [if_pos rfl]
      exact List.mem_append_right _ List.mem_cons_self
theorem nb_sym {es : List (Int × Int)} {h x : Int} : x ∈ nb es h ↔ h ∈ nb es x := by
  rw [nb_mem, nb_mem]; exact Or.comm
theorem Net.nb {m : Int} {es : List (Int × Int)} (N : Net m es) {h x : Int} (hx : x ∈ Od.nb es h) : 0 ≤ x ∧ x < m ∧ x ≠ h ∧ 0 ≤ h ∧ h < m := by
  rcases nb_mem.mp hx with q | q
  · have := N.ed _ q
    dsimp only at this
    omega
  · have := N.ed _ q
    dsimp only at this
    omega
theorem nbr_len {es : List (Int × Int)} {h : Int} : (nbr es h).length ≤ 2 * es.length := by
  unfold nbr
  induction es with
  | nil => simp
  | cons p es ih =>
    rw [List.flatMap_cons, List.length_append, List.length_cons]
    have : (nbe h p).length ≤ 2 := by
      unfold nbe
      rw [List.length_append]
      split <;> split <;> simp
    omega
theorem nb_len {es : List (Int × Int)} {h : Int} : (nb es h).length ≤ 2 * es.length := by
  unfold nb
  rw [(isort_perm _).length_eq]
  exact nbr_len
theorem near_perm (es : List (Int × Int)) (h : Int) : (((es.filter fun p => decide (p.1 = h)).map (·.2)) ++ ((es.filter fun p => decide (p.2 = h)).map (·.1))).Perm (nbr es h) := by
  induction es with
  | nil => exact .refl _
  | cons p es ih =>
    unfold nbr
    rw [List.flatMap_cons]
    refine List.Perm.trans ?_ (List.Perm.append_left _ ih)
    unfold nbe
    by_cases h1 : p.1 = h
    · rw [List.filter_cons_of_pos (by simp [h1]), if_pos h1]
      by_cases h2 : p.2 = h
      · rw [List.filter_cons_of_pos (by simp [h2]), if_pos h2]
        show (p.2 :: (_ ++ (p.1 :: _))).Perm ([p.2] ++ [p.1] ++ _)
        refine .cons _ ?_
        exact List.perm_middle
      · rw [List.filter_cons_of_neg (by simp [h2]), if_neg h2]
        exact .refl _
    · rw [List.filter_cons_of_neg (by simp [h1]), if_neg h1]
      by_cases h2 : p.2 = h
      · rw [List.filter_cons_of_pos (by simp [h2]), if_pos h2]
        exact List.perm_middle
      · rw [List.filter_cons_of_neg (by simp [h2]), if_neg h2]
        exact .refl _
theorem nbr_nodup : ∀ {es : List (Int × Int)} {h : Int}, es.Nodup → (∀ p ∈ es, p.1 < p.2) → (nbr es h).Nodup
  | [], _, _, _ => List.Pairwise.nil
  | p :: es, h, nd, hlt => by
    rw [List.nodup_cons] at nd
    unfold nbr
    rw [List.flatMap_cons, List.nodup_append]
    have hp := hlt p List.mem_cons_self
    refine ⟨?_, nbr_nodup nd.2 fun q hq => hlt q (List.mem_cons_of_mem _ hq), fun x hx y hy e => ?_⟩
    · unfold nbe
      split <;> split <;> simp
      rename_i a b
      omega
    · subst e
      obtain ⟨q, hq, hxq⟩ := List.mem_flatMap.mp hy
      have hq' := hlt q (List.mem_cons_of_mem _ hq)
      have key : ∀ z : Int × Int, x ∈ nbe h z → (z.1 = h ∧ z.2 = x) ∨ (z.2 = h ∧ z.1 = x) := fun z hz => by
        unfold nbe at hz
        rcases List.mem_append.mp hz with w | w
        · split at w
          · rename_i a; exact .inl ⟨a, (List.mem_singleton.mp w).symm⟩
          · cases w
        · split at w
          · rename_i a; exact .inr ⟨a, (List.mem_singleton.mp w).symm⟩
          · cases w
      have k1 := key p hx
      have k2 := key q hxq
      have e1 : p.1 = q.1 := by omega
      have e2 : p.2 = q.2 := by omega
      exact nd.1 (by rw [show p = q from Prod.ext e1 e2]; exact hq)
theorem Net.nb_nodup {m : Int} {es : List (Int × Int)} (N : Net m es) (h : Int) : (Od.nb es h).Nodup :=
  ((isort_perm _).nodup_iff).mpr (nbr_nodup N.nd fun p hp => (N.ed p hp).2.1)
theorem Net.nb_pw {m : Int} {es : List (Int × Int)} (N : Net m es) (h : Int) : (Od.nb es h).Pairwise (· < ·) := by
  have h1 : (Od.nb es h).Pairwise (· ≤ ·) := isort_pw _
  have h2 := N.nb_nodup h
  exact (h1.and h2).imp fun ⟨a, b⟩ => by omega
def F_neighbours : List PyData → PyData → Prop := fun ds d => ∃ m es h, ds = [nD m es, .int h] ∧ es.length ≤ 1000 ∧ d = tI (nb es h)
def F__law_near : List PyData → PyData → Prop := fun ds d => ∃ m es h, ds = [nD m es, .int h] ∧ es.length ≤ 1000 ∧ d = lI (nb es h)
def F_put : List PyData → PyData → Prop := fun ds d => ∃ xs k v, ds = [tI xs, .int k, .int v] ∧ 0 ≤ k ∧ k < (xs.length : Int) ∧ xs.length ≤ 1000 ∧ d = tI (xs.set k.toNat v)
theorem L_neighbours : ∀ ds d, F_neighbours ds d → ds.length = 2 := fun _ _ ⟨_, _, _, e, _⟩ => by rw [e]; rfl
theorem L__law_near : ∀ ds d, F__law_near ds d → ds.length = 2 := fun _ _ ⟨_, _, _, e, _⟩ => by rw [e]; rfl
theorem L_put : ∀ ds d, F_put ds d → ds.length = 3 := fun _ _ ⟨_, _, _, e, _⟩ => by rw [e]; rfl
section
variable {K : PySem.W.Frag} {r : Rho} {t ta tb tc : TE} {X : XK} {ns xs : List Int} {m h k v : Int} {es : List (Int × Int)}
theorem cv_net (h1 : EvD K ta r (lI ns)) : EvD K (tCall (spR K F__law_net) [] X (tCons ta tNil)) r (nD (nmany ns) (nedges ns)) := ev_call (ea_cons h1 ea_nil) ⟨ns, rfl, rfl⟩
theorem cv_nb (h1 : EvD K ta r (nD m es)) (h2 : EvD K tb r (.int h)) (q : es.length ≤ 1000) : EvD K (tCall (spR K F_neighbours) [] X (tCons ta (tCons tb tNil))) r (tI (nb es h)) := ev_call (ea_cons h1 (ea_cons h2 ea_nil)) ⟨m, es, h, rfl, q, rfl⟩
theorem cv_near (h1 : EvD K ta r (nD m es)) (h2 : EvD K tb r (.int h)) (q : es.length ≤ 1000) : EvD K (tCall (spR K F__law_near) [] X (tCons ta (tCons tb tNil))) r (lI (nb es h)) := ev_call (ea_cons h1 (ea_cons h2 ea_nil)) ⟨m, es, h, rfl, q, rfl⟩
theorem cv_put (h1 : EvD K ta r (tI xs)) (h2 : EvD K tb r (.int k)) (h3 : EvD K tc r (.int v)) (q0 : 0 ≤ k) (q1 : k < (xs.length : Int)) (q2 : xs.length ≤ 1000) : EvD K (tCall (spR K F_put) [] X (tCons ta (tCons tb (tCons tc tNil)))) r (tI (xs.set k.toNat v)) := ev_call (ea_cons h1 (ea_cons h2 (ea_cons h3 ea_nil))) ⟨xs, k, v, rfl, q0, q1, q2, rfl⟩
/-- net[0], net[1] -/
theorem ev_n0 (h1 : EvD K ta r (nD m es)) : EvD K (tOp (rIxT K) ta (tC (.int 0))) r (.int m) := ev_ixT h1 ev_int rfl
theorem ev_n1 (h1 : EvD K ta r (nD m es)) : EvD K (tOp (rIxT K) ta (tC (.int 1))) r (.tuple (es.map eD)) := ev_ixT h1 ev_int rfl
end
/-! ### counting -/
theorem nodup_len : ∀ {n : Nat} {l : List Int}, l.Nodup → (∀ x ∈ l, 0 ≤ x ∧ x < n) → l.length ≤ n
  | 0, l, _, h => by
    cases l with
    | nil => exact Nat.le_refl _
    | cons a l => have := h a List.mem_cons_self; omega
  | n + 1, l, nd, h => by
    by_cases hn : (n : Int) ∈ l
    · have h1 := nodup_len (n := n) (l := l.erase (n : Int)) (nd.erase _) fun x hx => by
        have h2 := h x (List.mem_of_mem_erase hx)
        have h3 : x ≠ n := fun e => by
          rw [e] at hx
          exact (List.Nodup.not_mem_erase nd) hx
        omega
      rw [List.length_erase_of_mem hn] at h1
      omega
    · have h1 := nodup_len (n := n) (l := l) nd fun x hx => by
        have h2 := h x hx
        have h3 : x ≠ n := fun e => hn (e ▸ hx)
        omega
      omega
theorem Net.nb_small {m : Int} {es : List (Int × Int)} (N : Net m es) (h : Int) : ((Od.nb es h).length : Int) < m := by
  have hm := N.lo
  cases q : Od.nb es h with
  | nil => simp; omega
  | cons a l =>
    have ha : a ∈ Od.nb es h := by rw [q]; exact List.mem_cons_self
    have hh := N.nb ha
    have h1 : (h :: Od.nb es h).Nodup := List.nodup_cons.mpr ⟨fun z => (N.nb z).2.2.1 rfl, N.nb_nodup h⟩
    have h2 := nodup_len (n := m.toNat) h1 fun x hx => by
      rcases List.mem_cons.mp hx with e | e
      · rw [e]; omega
      · have := N.nb e; omega
    rw [List.length_cons] at h2
    rw [q] at h2
    omega
theorem irange_nodup {lo : Int} {n : Nat} : (irange lo n).Nodup := irange_pw.imp fun h => by omega
theorem sub_len : ∀ {l k : List Int}, l.Nodup → (∀ x ∈ l, x ∈ k) → l.length ≤ k.length
  | [], _, _, _ => Nat.zero_le _
  | a :: l, k, nd, h => by
    rw [List.nodup_cons] at nd
    have ha := h a List.mem_cons_self
    have h1 := sub_len (l := l) (k := k.erase a) nd.2 fun x hx => (List.mem_erase_of_ne (fun (e : x = a) => nd.1 (by rw [← e]; exact hx))).mpr (h x (List.mem_cons_of_mem _ hx))
    rw [List.length_erase_of_mem ha] at h1
    have := List.length_pos_of_mem ha
    rw [List.length_cons]
    omega
/-- of n + 1 numbers one at least is not among n -/
theorem pigeon {l : List Int} {n : Nat} (h : l.length < n) : ∃ c, c ∈ irange 0 n ∧ c ∉ l := by
  refine Decidable.byContradiction fun hc => ?_
  have hall : ∀ c ∈ irange 0 n, c ∈ l := fun c hm => Decidable.byContradiction fun q => hc ⟨c, hm, q⟩
  have : (irange 0 n).length ≤ l.length := sub_len irange_nodup hall
  rw [irange_len] at this
  omega
theorem irange_succ' {lo : Int} {n : Nat} : irange lo (n + 1) = irange lo n ++ [lo + (n : Int)] := by
  unfold irange
  rw [List.range_succ, List.map_append]; rfl
theorem ixN_nn {n : Nat} {k : Int} (h0 : 0 ≤ k) (h1 : k < n) : ixN n k = some k.toNat := by
  unfold ixN
  rw [if_pos h0, if_pos h1]
theorem nbr_take {es : List (Int × Int)} {h : Int} {i : Nat} {p : Int × Int} (hp : es[i]? = some p) : nbr (es.take (i + 1)) h = nbr (es.take i) h ++ nbe h p := by
  unfold nbr
  rw [List.take_add_one, hp, List.flatMap_append]
  congr 1
  show List.flatMap (nbe h) [p] = nbe h p
  rw [List.flatMap_cons, List.flatMap_nil, List.append_nil]
/-- drawn numbers -/
def nums0 (ns : List Int) (k p z : Int) : List Int := (irange 0 (nmany ns).toNat).map fun i => mix (cell ns k + 31 * i) p z
theorem nums0_len {ns : List Int} {k p z : Int} : ((nums0 ns k p z).length : Int) = nmany ns := by
  have := nmany_b ns
  unfold nums0
  rw [List.length_map, irange_len]; omega
theorem nums0_at {ns : List Int} {k p z h : Int} (hz : 0 < z) (h0 : 0 ≤ h) (h1 : h < nmany ns) : 0 ≤ at_ (nums0 ns k p z) h ∧ at_ (nums0 ns k p z) h < z := by
  unfold at_ nums0
  rw [getD_mapr (by omega)]
  exact ⟨mix_lo hz, mix_hi hz⟩
theorem map_get {α : Type} {f : α → PyData} {l : List α} {i : Nat} {d : PyData} (h : (l.map f)[i]? = some d) : ∃ a, l[i]? = some a ∧ d = f a ∧ i < l.length := by
  rw [List.getElem?_map] at h
  cases q : l[i]? with
  | none => rw [q] at h; cases h
  | some a =>
    rw [q] at h
    exact ⟨a, rfl, (Option.some.inj h).symm, (List.getElem?_eq_some_iff.mp q).1⟩
theorem at_nat {ns : List Int} {i : Nat} (h1 : i < ns.length) : atI (ns.map PyData.int) (i : Int) = some (.int (ns.getD i 0)) := by
  have := at_nn (ns := ns) (i := (i : Int)) (by omega) (by omega)
  rw [Int.toNat_natCast] at this
  exact this
end Od

namespace Od
open PySem PySem.Spec PyProof.Rows L2

/-! ### a lambda of one parameter -/
structure Lam1 (sc scope : Scope) (x : Str) : Prop where
  kind : scope.kind = .function
  co : scope.isCoroutine = false
  gen : scope.isGenerator = false
  own : ∀ y ∈ scope.names, y.2 ≠ .cell ∧ (y.2 = .local → y.1 = x)
  par : scope.names.lookup x = some .local
  free : ∀ y ∈ scope.names, y.2 = .free → sc.names.lookup y.1 = some .cell ∨ sc.names.lookup y.1 = some .free
def lam1B (sc scope : Scope) (x : Str) : Bool :=
  decide (scope.kind = .function) && !scope.isCoroutine && !scope.isGenerator && decide (scope.names.lookup x = some .local) && scope.names.all fun y => !decide (y.2 = .cell) && (!decide (y.2 = .local) || decide (y.1 = x)) && (!decide (y.2 = .free) || decide (sc.names.lookup y.1 = some .cell) || decide (sc.names.lookup y.1 = some .free))
theorem lam1_by {sc scope : Scope} {x : Str} (h : lam1B sc scope x = true) : Lam1 sc scope x := by
  unfold lam1B at h
  simp only [Bool.and_eq_true, Bool.or_eq_true, Bool.not_eq_true', decide_eq_true_eq, decide_eq_false_iff_not, List.all_eq_true] at h
  obtain ⟨⟨⟨⟨h1, h2⟩, h3⟩, h5⟩, h4⟩ := h
  refine ⟨h1, h2, h3, fun y hy => ⟨(h4 y hy).1.1, fun e => ?_⟩, h5, fun y hy e => ?_⟩
  · rcases (h4 y hy).1.2 with z | z
    · exact absurd e z
    · exact z
  · rcases (h4 y hy).2 with (z | z) | z
    · exact absurd e z
    · exact .inl z
    · exact .inr z
theorem Lam1.has {X : Cx} {scope : Scope} {x : Str} (L : Lam1 X.env.scope scope x) (ok : X.Ok) : ∀ y ∈ scope.names, y.2 = .free → ∃ c, X.env.cells.lookup y.1 = some c := fun y hy e => by
  rcases L.free y hy e with k | k
  · exact ok.has _ (.inl k)
  · exact ok.has _ (.inr k)
/-- the context of the lambda's body, entered at s from the frames outer -/
def lamCx1 (X : Cx) (A : Around) (outer : List Env) (s : Shared) (H : Hp) (E : XK) (scope : Scope) (f c' : Addr) (x : Str) : Cx where
  prog := X.prog
  w := X.w
  K := X.K
  mg := X.mg
  base := X.base
  A := A.deeper (LamX.lamEnv X scope s.heap.objs.size f c')
  N := X.N ++ [x]
  s_0 := s
  H_0 := H
  env := LamX.lamEnv X scope s.heap.objs.size f c'
  outer := outer
  stack := LamX.lamEnv X scope s.heap.objs.size f c' :: outer
  ex := []
  fn := fun _ => false
  calm := true
  pn := []
  xe := fun e s' => wpAny (model X.prog X.w) (A.deeper (LamX.lamEnv X scope s.heap.objs.size f c')) (leaving (LamX.lamEnv X scope s.heap.objs.size f c') e) (fun _ s'' => L2.CX X.prog X.w outer H s E e s'') (fun e' s'' => L2.CX X.prog X.w outer H s E e' s'') s'
section
variable {X : Cx} {pins : List (Addr × Obj)} {σ : L2.St} {H : Hp} {s : Shared}
theorem lam_start1 {A : Around} {outer : List Env} {E : XK} {scope : Scope} {f c' : Addr} {h₁ : Heap} {tk : Nat} {x : Str} {v : V} {u : Value} (I : Inv X pins σ H s) (L : Lam1 X.env.scope scope x) (hx : x ∉ X.N) (e0 : Env0 X.prog X.w X.K X.mg X.base A outer s H) (hd : A.handled = none)
    (rv : RelV v u) (hns : h₁.Ns s.heap.objs.size fun y => ([(x, u)] : List (Str × Value)).reverse.lookup y) (kp : ∀ b o, s.heap.get? b = some o → h₁.get? b = some o) :
    Inv (lamCx1 X A outer s H E scope f c' x) [] (σ ++ [some v]) H { s with heap := h₁, toks := tk } := by
  have hfree := L.has I.ok
  have cm : ∀ {y c}, (cloFrom X.env.cells scope.names []).lookup y = some c → X.env.cells.lookup y = some c := fun {y c} e => by
    rcases cloFrom_mem (PySem.mem_of_lookup e) with hm | ⟨h1, h2⟩
    · cases hm
    · obtain ⟨c1, hc⟩ := hfree _ h1 rfl
      have hc : X.env.cells.lookup y = some c1 := hc
      have e2 : c = c1 := by
        rw [h2, hc] <;> rfl
      rw [e2]
      exact hc
  have look : ∀ {y}, scope.names.lookup y = some .free → ∃ c, (cloFrom X.env.cells scope.names []).lookup y = some c := fun {y} hl => by
    have hy : (y, NameKind.free) ∈ scope.names := PySem.mem_of_lookup hl
    exact mem_lookup (cloFrom_has (cells := X.env.cells) (acc := []) hy)
  have cellK : ∀ {c : Addr} {v : Option Value}, s.heap.IsCell c v → h₁.IsCell c v := fun {c v} ⟨o, ho, hd⟩ => ⟨_, kp _ _ ho, hd⟩
  have noA : ∀ b : Addr, b ∉ (lamCx1 X A outer s H E scope f c' x).ex := fun b z => absurd (show b ∈ ([] : List Addr) from z) (by simp)
  refine ⟨⟨e0.mod, L.kind, rfl, rfl, Nat.le_refl _, fun y z c e1 e2 => I.ok.inj y z c (cm e1) (cm e2), fun y hy => ?_, fun y c z _ => ?_, fun _ => hd, Around.frames_deeper e0.frames, .inr ⟨rfl, rfl⟩, fun b z => absurd z (noA b), e0.bs, e0.bsz, fun b _ _ => noA b,
      fun b z => absurd z (noA b), e0.funs, e0.frf⟩,
    rfl, e0.bare, Un.kept kp, ⟨_, hns, fun i y v' e1 e2 e3 => ?_⟩, fun y c e => ?_, e0.hok.fresh (Nat.le_refl _), fun y c e => ?_, fun q hq => absurd (show q ∈ ([] : List (Addr × Obj)) ++ [] from hq) (by simp), e0.hok.kept kp, ?_⟩
  · have hy : scope.names.lookup y = some .cell ∨ scope.names.lookup y = some .free := hy
    rcases hy with hy | hy
    · exact absurd rfl (L.own _ (PySem.mem_of_lookup hy)).1
    · exact look hy
  · have z : false = true := z
    cases z
  · have e3 : Vis scope y := e3
    have e1 : (X.N ++ [x])[i]? = some y := e1
    have hlen := I.len
    by_cases hi : i < X.N.length
    · rw [List.getElem?_append_left hi] at e1
      rw [List.getElem?_append_left (by omega)] at e2
      have hyx : y ≠ x := fun z => hx (by rw [← z]; exact List.mem_of_getElem? e1)
      rcases e3 with k | k | k
      · exact absurd ((L.own _ (PySem.mem_of_lookup k)).2 rfl) hyx
      · exact absurd rfl (L.own _ (PySem.mem_of_lookup k)).1
      · obtain ⟨m, hn, hl⟩ := I.loc
        have hvis : Vis X.env.scope y := (L.free _ (PySem.mem_of_lookup k) rfl).elim (fun k => .inr (.inl k)) (fun k => .inr (.inr k))
        obtain ⟨w', r, q⟩ := hl i y v' e1 e2 hvis
        obtain ⟨c2, h2⟩ := look k
        refine ⟨w', r, .inr ⟨.inr k, c2, h2, ?_⟩⟩
        have c1 := cm h2
        rcases q with ⟨k', _⟩ | ⟨_, c3, e', z⟩
        · have k' : X.env.scope.names.lookup y = some .local := k'
          rcases L.free _ (PySem.mem_of_lookup k) rfl with k2 | k2 <;> rw [show X.env.scope.names.lookup y = _ from k2] at k' <;> cases k'
        · rw [c1] at e'
          cases e'
          exact cellK z
    · rw [List.getElem?_append_right (by omega)] at e1
      rw [List.getElem?_append_right (by omega)] at e2
      have hi0 : i - X.N.length = 0 := by
        have := (List.getElem?_eq_some_iff.mp e1).1
        rw [List.length_singleton] at this
        omega
      have hi1 : i - σ.length = 0 := by omega
      rw [hi0] at e1
      rw [hi1] at e2
      cases e1
      cases e2
      exact ⟨u, rv, .inl ⟨L.par, by simp⟩⟩
  · obtain ⟨w', z⟩ := I.cell y c (cm e)
    exact ⟨w', cellK z⟩
  · exact I.freeC y c (cm e)
  · show (σ ++ [some v]).length = (X.N ++ [x]).length
    rw [List.length_append, List.length_append, I.len]; rfl
abbrev lamObj (X : Cx) (params : Arguments) (body : Expr) (scope : Scope) (pm : Value) (c' : Addr) (ctv : Value) : Obj := PySem.W.kla_obj "<lambda>" (X.env.qual ++ "<lambda>") params body scope (cloFrom X.env.cells scope.names []) pm c' ctv
/-- the lambda at f is called -/
theorem lam_run {A : Around} {f c' : Addr} {pm ctv : Value} {params : Arguments} {body : Expr} {scope : Scope} {k : Nat} {x : Str} {v : V} {u : Value} {Q : VK} {tb : TE} (I : Inv X pins σ H s) (L : Lam1 X.env.scope scope x) (hx : x ∉ X.N) (hA : A.frames = some X.stack) (hr : Room (k + 1) A)
    (hf : s.heap.get? f = some (lamObj X params body scope pm c' ctv)) (hc : H c' = some (LamX.CodeO c' (X.env.qual ++ "<lambda>")))
    (hbind : ∀ u, bindArgs (PySem.W.kla_fn "<lambda>" (X.env.qual ++ "<lambda>") params body scope (cloFrom X.env.cells scope.names []) pm (.ref c') ctv) ⟨[u], []⟩ = pure [(x, u)])
    (hbody : ∀ (A : Around) (outer : List Env) (s : Shared) (H : Hp), Room k (A.deeper (LamX.lamEnv X scope s.heap.objs.size f c')) → PE (lamCx1 X A outer s H E0 scope f c' x) body tb) (rv : RelV v u) (ht : tb (σ ++ [some v]) H Q) :
    codeAny (model X.prog X.w) A (.call (.ref f) ⟨[u], []⟩) (CR (L2.CX X.prog X.w) X.stack X.prog X.w H s Q E0) s := by
  have e0' := I.env0
  have e0 : Env0 X.prog X.w X.K X.mg X.base A X.stack s H := ⟨hA, e0'.mod, e0'.bs, e0'.bsz, e0'.funs, e0'.frf, e0'.hok, e0'.bare⟩
  obtain ⟨⟨oc, vs, t, hoc, hdc, hvc⟩, _, _⟩ := I.hok c' _ hc
  refine PySem.W.kla_callFunE hr.depth hf rfl L.co L.gen rfl ⟨c', oc, vs, t, rfl, hoc, hdc, hvc⟩ ?_
  rw [hbind]
  refine wpAny_pure (wpAny_newFunctionEnv (fun y hy => (L.own y hy).1) (fun y hy => ?_) (fun h₁ hns hsb => ⟨I.nolimit.fresh _ hsb, ?_⟩) L.kind)
  · rw [List.mem_singleton.mp hy]; exact L.par
  show codeAny _ _ (.expr body (LamX.lamEnv X scope s.heap.objs.size f c')) _ _
  have kp : ∀ b o, s.heap.get? b = some o → h₁.get? b = some o := fun b o e => hsb.extBut b o (Nat.ne_of_lt (Heap.lt_size e)) (Heap.get?_push_of_some _ e)
  have J : Inv (lamCx1 X A X.stack s H E0 scope f c' x) [] (σ ++ [some v]) H { s with heap := h₁, toks := s.toks + ([(x, u)] : List (Str × Value)).length } := lam_start1 I L hx e0 hr.hd rv hns kp
  refine PySem.W.kla_codeExpr (wpAny_mono ((hbody _ _ s H (hr.deeper _)).run [] _ _ H Q J ht) (fun v s' hq => ?_) fun e s' hq => hq)
  obtain ⟨w', H', J', rv, q⟩ := hq
  exact ⟨w', H', J'.os, J'.bare, J'.base, J'.hok, rv, q⟩
end
/-! ### greater pairs -/
def gt2 (a b : Int × Int) : Bool := if a.1 = b.1 then (if a.2 = b.2 then false else decide (a.2 > b.2)) else decide (a.1 > b.1)
theorem rc_int {A : Around} {s : Shared} {i j : Int} {t u : Tok} : SeqAt.RcOp .Gt A s (.int i t) (.int j u) (decide (i > j)) := fun prog w E Q h =>
  CmpOf.ints_gt (P := fun (k : Nat) v => ∃ t, v = .int (if k = 0 then i else j) t) (fun k => if k = 0 then i else j) (fun _ _ h => h) 0 1 _ _ s Q E ⟨t, rfl⟩ ⟨u, rfl⟩ h
theorem gt_pair {A : Around} {s : Shared} {a b : Addr} {t1 t2 u1 u2 : Tok} {k l : Int × Int} (ha : s.heap.IsTuple a #[.int k.1 t1, .int k.2 t2]) (hb : s.heap.IsTuple b #[.int l.1 u1, .int l.2 u2]) (hu : A.units < cLine) : SeqAt.RcOp .Gt A s (.ref a) (.ref b) (gt2 k l) := by
  have h := SeqAt.RcOp.tuples_gt (e := fun j => if j = 0 then k.1 == l.1 else k.2 == l.2) (r := fun j => if j = 0 then decide (k.1 > l.1) else decide (k.2 > l.2)) ha hb hu (fun j h1 h2 => ?_) (fun j h1 h2 _ => ?_)
  · have e : SeqAt.firstLt (fun j => if j = 0 then k.1 == l.1 else k.2 == l.2) (fun j => if j = 0 then decide (k.1 > l.1) else decide (k.2 > l.2)) (decide ((#[Value.int k.1 t1, .int k.2 t2] : Array Value).size > (#[Value.int l.1 u1, .int l.2 u2] : Array Value).size)) (List.range (min (#[Value.int k.1 t1, .int k.2 t2] : Array Value).size (#[Value.int l.1 u1, .int l.2 u2] : Array Value).size)) = gt2 k l := by
      show SeqAt.firstLt _ _ false [0, 1] = _
      unfold gt2 SeqAt.firstLt SeqAt.firstLt SeqAt.firstLt
      by_cases h1 : k.1 = l.1 <;> by_cases h2 : k.2 = l.2 <;> simp [h1, h2]
    rw [e] at h
    exact h
  · match j, h1 with
    | 0, _ => exact SeqAt.EqAt.int_int _ _ _ _
    | 1, _ => exact SeqAt.EqAt.int_int _ _ _ _
  · match j, h1 with
    | 0, _ => exact rc_int
    | 1, _ => exact rc_int
end Od

namespace Od
open PySem PySem.Spec PyProof.Rows L2

/-! ### max(a tuple, key=lambda x: a pair of ints) -/
/-- what the rest of the items comes to: best, its key kb -/
def rMx (K : PySem.W.Frag) (c' : Addr) (q : Str) (tb : TE) (σ : L2.St) (Q : VK) : List V → V → Int × Int → Hp → Prop
  | [], best, _, H => Q best H
  | x :: r, best, kb, H => tb (σ ++ [some x]) H fun kv H' => ∃ t k, kv = .ref t ∧ SqT K H' t [.int k.1, .int k.2] ∧ H' c' = some (LamX.CodeO c' q) ∧ (if gt2 k kb = true then rMx K c' q tb σ Q r x k H' else rMx K c' q tb σ Q r best kb H')
theorem sqt_un {fs ex : List Addr} {K : PySem.W.Frag} {H H' : Hp} {h h' : Heap} {a : Addr} {xs : List V} (u : Un fs ex H H' h h') (q : SqT K H a xs) : SqT K H' a xs := by
  rcases q with (q | ⟨o, q⟩) | q
  · exact .inl (.inl (u.tups _ _ q))
  · exact .inl (.inr ⟨o, u.frzs _ _ _ q⟩)
  · exact .inr q
theorem tup2_at {X : Cx} {pins : List (Addr × Obj)} {σ : L2.St} {H : Hp} {s : Shared} {t : Addr} {k : Int × Int} (I : Inv X pins σ H s) (q : SqT X.K H t [.int k.1, .int k.2]) : ∃ t1 t2, s.heap.IsTuple t #[.int k.1 t1, .int k.2 t2] := by
  obtain ⟨its, rv, p, _⟩ := I.tuple q
  obtain ⟨u1, u2, rfl, ri, rj⟩ := vals2 rv
  obtain ⟨t1, rfl⟩ := ri
  obtain ⟨t2, rfl⟩ := rj
  exact ⟨t1, t2, p⟩
section
variable {X : Cx} {pins : List (Addr × Obj)} {σ : L2.St} {A : Around} {f c' l it S : Addr} {pm ctv : Value} {params : Arguments} {body : Expr} {scope : Scope} {k : Nat} {x : Str} {tb : TE} {xs : List V} {R : Result → Shared → Prop} {Q : VK}
/-- what is fixed through the loop -/
structure MxC (X : Cx) (pins : List (Addr × Obj)) (A : Around) (f c' l it S : Addr) (pm ctv : Value) (params : Arguments) (body : Expr) (scope : Scope) (k : Nat) (x : Str) (tb : TE) : Prop where
  L : Lam1 X.env.scope scope x
  hx : x ∉ X.N
  hh : A.handled = none
  hA : A.frames = some X.stack
  hr : Room (k + 1) A.in1
  hu : A.in1.units < cLine
  hbind : ∀ u, bindArgs (PySem.W.kla_fn "<lambda>" (X.env.qual ++ "<lambda>") params body scope (cloFrom X.env.cells scope.names []) pm (.ref c') ctv) ⟨[u], []⟩ = pure [(x, u)]
  hbody : ∀ (A : Around) (outer : List Env) (s : Shared) (H : Hp), Room k (A.deeper (LamX.lamEnv X scope s.heap.objs.size f c')) → PE (lamCx1 X A outer s H E0 scope f c' x) body tb
  ri : FbM.Rec X pins it
  rS : FbM.Rec X pins S
  rf : FbM.Rec X pins f
  Si : S ≠ it
  fi : f ≠ it
  fS : f ≠ S
  li : l ≠ it
  lS : l ≠ S
/-- the state of the loop -/
structure MxS (X : Cx) (pins : List (Addr × Obj)) (σ : L2.St) (f c' l it S : Addr) (pm ctv : Value) (params : Arguments) (body : Expr) (scope : Scope) (xs : List V) (i : Nat) (H : Hp) (s : Shared) : Prop where
  I : Inv X pins σ H s
  hl : SqT X.K H l xs
  ui : H it = none
  uS : H S = none
  uf : H f = none
  hc : H c' = some (LamX.CodeO c' (X.env.qual ++ "<lambda>"))
  hf : s.heap.get? f = some (lamObj X params body scope pm c' ctv)
  hit : s.heap.IsTupleIter it l i
/-- one item is drawn and its key told -/
theorem mx_draw (C : MxC X pins A f c' l it S pm ctv params body scope k x tb) {i : Nat} {H : Hp} {s : Shared} (M : MxS X pins σ f c' l it S pm ctv params body scope xs i H s) {v : V} (hv : xs[i]? = some v) {oS : Obj} (hS : s.heap.get? S = some oS)
    {Q1 : VK} (ht : tb (σ ++ [some v]) H Q1) {P : Option Value → Shared → Prop} {E : Value → Shared → Prop}
    (h : ∀ u h', RelV v u → (∀ {Qr : Value → Shared → Prop} {Er : Value → Shared → Prop}, (∀ ku kv H' s2, RelV kv ku → Q1 kv H' → H' c' = some (LamX.CodeO c' (X.env.qual ++ "<lambda>")) → MxS X pins σ f c' l it S pm ctv params body scope xs (i + 1) H' s2 → s2.heap.get? S = some oS → (∀ t ys, SqT X.K H t ys → SqT X.K H' t ys) → Qr ku s2) → (∀ kv H', Q1 kv H' → H' c' = some (LamX.CodeO c' (X.env.qual ++ "<lambda>"))) →
      wpAny (model X.prog X.w) A.in1 (call (.ref f) [u]) Qr Er { s with heap := h' }) → P (some u) { s with heap := h' }) :
    wpAny (model X.prog X.w) A.in1 (pyNext (.ref it)) P E s := by
  obtain ⟨its, rv, p, _⟩ := M.I.tuple M.hl
  have p' : s.heap.IsTuple l its.toArray := p
  obtain ⟨u, hu, ru⟩ := rv.get hv
  refine wpAny_pyNext_tuple_item M.hit p' (x := u) (by simpa using hu) fun h' hit' hs' => h u h' ru ?_
  intro Qr Er hk hcode
  have I1 : Inv X pins σ H { s with heap := h' } := C.ri.turn (t' := s.toks) M.I M.ui fun c o hc e => hs'.extBut c o hc e
  have hf1 : h'.get? f = some (lamObj X params body scope pm c' ctv) := hs'.extBut _ _ C.fi M.hf
  have hS1 : h'.get? S = some oS := hs'.extBut _ _ C.Si hS
  refine wpAny_call (codeAny_mono (lam_run I1 C.L C.hx C.hA C.hr hf1 M.hc C.hbind C.hbody ru ht) fun rr s2 hrr => ?_)
  cases rr with
  | error e =>
    exfalso
    obtain ⟨_, _, _, _, _, _, _, _, _, _, _, _, z⟩ := (show L2.CX X.prog X.w X.stack H _ E0 e s2 from hrr)
    exact z
  | ok fl =>
    cases fl with
    | next => exact False.elim hrr
    | brk => exact False.elim hrr
    | cont => exact False.elim hrr
    | ret ku =>
      obtain ⟨kv, H', os, bare, un, hok, rv', q⟩ := (show CE X.stack X.prog X.w H _ Q1 ku s2 from hrr)
      have I2 : Inv X pins σ H' s2 := I1.call' os un hok bare (fun b y => absurd y List.not_mem_nil)
      have keep : ∀ {b : Addr} {o : Obj}, FbM.Rec X pins b → H b = none → h'.get? b = some o → s2.heap.get? b = some o := fun rb ub eb => un.keep _ _ eb ub rb.fr List.not_mem_nil
      have free : ∀ {b : Addr} {o : Obj}, H b = none → h'.get? b = some o → H' b = none := fun ub eb => un.free _ _ eb ub List.not_mem_nil
      obtain ⟨oi, hoi, hci, hdi⟩ := id hit'
      have hi2 := keep C.ri M.ui hoi
      exact hk ku kv H' s2 rv' q (hcode kv H' q) ⟨I2, sqt_un un M.hl, free M.ui hoi, free M.uS hS1, free M.uf hf1, hcode kv H' q, keep C.rf M.uf hf1, ⟨oi, hi2, hci, hdi⟩⟩ (keep C.rS M.uS hS1) (fun t ys z => sqt_un un z)
theorem mx_loop (C : MxC X pins A f c' l it S pm ctv params body scope k x tb) (hR : ∀ v u H' s', Inv X pins σ H' s' → RelV v u → Q v H' → R (.ok (.ret u)) s') :
    ∀ (r : List V) (i : Nat) (H : Hp) (s : Shared) (vb : V) (ub : Value) (kb : Int × Int) (tk : Addr) (c : Nat), xs.drop i = r → i ≤ xs.length → MxS X pins σ f c' l it S pm ctv params body scope xs i H s →
      s.heap.get? S = some { cls := .type "list", dict := none, data := .seq #[ub, .ref tk] c, slots := #[] } → RelV vb ub → SqT X.K H tk [.int kb.1, .int kb.2] → rMx X.K c' (X.env.qual ++ "<lambda>") tb σ Q r vb kb H →
      ∀ kw, codeAny (model X.prog X.w) A (.builtin "max.loop" ⟨[.ref it, .ref f, .ref S], kw⟩) R s
  | [], i, H, s, vb, ub, kb, tk, c, hd, hi, M, hS, hb, hk, hq, kw => by
    have hin : i = xs.length := by
      have e := congrArg List.length hd
      rw [List.length_drop] at e
      have e2 : xs.length - i = 0 := e
      omega
    obtain ⟨its, rv, p, _⟩ := M.I.tuple M.hl
    have p' : s.heap.IsTuple l its.toArray := p
    have hlen := rv.length
    refine codeAny_builtin F.entry_max_loop ?_
    rw [Around.under_plainId F.plain_max_loop _]
    show wpAny _ A.in1 (seqItems? (.ref S) >>= _) _ _ s
    refine wpAny_bind (wpAny_seqItems hS rfl ?_)
    show wpAny _ A.in1 (tryCatch (pyNext (.ref it)) _ >>= _) _ _ s
    refine wpAny_bind (wpAny_tryCatch (wpAny_pyNext_tuple_end (show A.in1.handled = none from C.hh) M.hit p' (by simp; omega) fun h' he => ?_))
    have hS' := he S _ C.Si hS
    have I1 : Inv X pins σ H { s with heap := h' } := C.ri.turn (t' := s.toks) M.I M.ui fun c o hc e => he c o hc e
    show wpAny _ A.in1 (updateSeq S (fun _ => #[]) >>= _) _ _ _
    refine wpAny_bind ?_
    refine wpAny_updateSeq hS' rfl (wpAny_bind (wpAny_letGo (wpAny_pure ?_)))
    have I2 : Inv X pins σ H { s with heap := h'.update S (Obj.mapSeq fun _ => (#[] : Array Value)) } := C.rS.turn (s := { s with heap := h' }) (t' := s.toks) I1 M.uS fun c o hc e => (Heap.get?_update_other _ _ (Ne.symm hc)).trans e
    exact hR vb ub H _ I2 hb hq
  | v :: r, i, H, s, vb, ub, kb, tk, c, hd, hi, M, hS, hb, hk, hq, kw => by
    have hname : (toString "max" ++ toString ".loop" : String) = "max.loop" := by decide
    have hlt : i < xs.length := by
      rcases Nat.lt_or_ge i xs.length with z | z
      · exact z
      · rw [List.drop_eq_nil_of_le z] at hd
        exact (nomatch hd)
    have hvi : xs[i]? = some v := by
      have e : (xs.drop i)[0]? = (v :: r)[0]? := by rw [hd]
      rw [List.getElem?_drop] at e
      exact e
    have hdr : xs.drop (i + 1) = r := by
      have e := congrArg (List.drop 1) hd
      rw [List.drop_drop] at e
      first
        | exact e
        | (rw [Nat.add_comm] at e; exact e)
    refine codeAny_builtin F.entry_max_loop ?_
    rw [Around.under_plainId F.plain_max_loop _]
    show wpAny _ A.in1 (seqItems? (.ref S) >>= _) _ _ s
    refine wpAny_bind (wpAny_seqItems hS rfl ?_)
    show wpAny _ A.in1 (tryCatch (pyNext (.ref it)) _ >>= _) _ _ s
    refine wpAny_bind (wpAny_tryCatch (mx_draw C M hvi hS hq fun u h' ru hcall => ?_))
    show wpAny _ A.in1 (tryCatch (holding [u] (call (.ref f) [u])) _ >>= _) _ _ _
    refine wpAny_bind (wpAny_tryCatch (wpAny_holding (hcall (fun ku kv H' s2 rk q hc2 M2 hS2 keepT => ?_) fun kv H' q => q.choose_spec.choose_spec.2.2.1)))
    obtain ⟨t, kk, rfl, hkt, _, hq2⟩ := q
    obtain rfl : ku = Value.ref t := rk
    obtain ⟨a1, a2, tA⟩ := tup2_at M2.I hkt
    obtain ⟨b1, b2, tB⟩ := tup2_at M2.I (keepT _ _ hk)
    show wpAny _ A.in1 (tryCatch (holding [u, .ref t] (richCompare .Gt (.ref t) (.ref tk) >>= _)) _ >>= _) _ _ _
    refine wpAny_bind (wpAny_tryCatch (wpAny_holding (wpAny_bind (gt_pair tA tB C.hu X.prog X.w _ _ ?_))))
    refine wpAny_bind (wpAny_holding (wpAny_truthy_bool ?_))
    refine wpAny_bind (wpAny_letGo (wpAny_pure ?_))
    cases hg : gt2 kk kb with
    | true =>
      rw [hg, if_pos rfl] at hq2
      simp only [if_true]
      refine wpAny_bind ?_
      refine wpAny_updateSeq hS2 rfl (wpAny_bind (wpAny_letGo ?_))
      rw [hname]
      have I3 : Inv X pins σ H' { s2 with heap := s2.heap.update S (Obj.mapSeq fun _ => #[u, .ref t]) } := C.rS.turn (t' := s2.toks) M2.I M2.uS fun c o hc e => (Heap.get?_update_other _ _ (Ne.symm hc)).trans e
      have kp : ∀ b o, b ≠ S → s2.heap.get? b = some o → (s2.heap.update S (Obj.mapSeq fun _ => #[u, .ref t])).get? b = some o := fun b o hb e => (Heap.get?_update_other _ _ (Ne.symm hb)).trans e
      obtain ⟨oi, hoi, hci, hdi⟩ := id M2.hit
      exact wpAny_pure ⟨plainId_quiet F.plain_max_loop _, mx_loop C hR r (i + 1) H' _ v u kk t _ hdr hlt ⟨I3, M2.hl, M2.ui, M2.uS, M2.uf, M2.hc, kp _ _ C.fS M2.hf, ⟨oi, kp _ _ (Ne.symm C.Si) hoi, hci, hdi⟩⟩ (Heap.get?_update_self _ hS2 rfl) ru hkt hq2 _⟩
    | false =>
      rw [hg, if_neg (by decide)] at hq2
      simp only [Bool.false_eq_true, if_false]
      refine wpAny_bind (wpAny_letGo ?_)
      rw [hname]
      exact wpAny_pure ⟨plainId_quiet F.plain_max_loop _, mx_loop C hR r (i + 1) H' s2 vb ub kb tk c hdr hlt M2 hS2 hb (keepT _ _ hk) hq2 _⟩
/-- max(l, key=f) -/
theorem max_call {H : Hp} {s : Shared} {x0 : V} {E : Value → Shared → Prop} {Qf : Value → Shared → Prop} (hA : X.A.frames = some X.stack) (L : Lam1 X.env.scope scope x) (hx : x ∉ X.N) (hh : X.A.handled = none) (hr : Room (k + 1) X.A.in1)
    (hbind : ∀ u, bindArgs (PySem.W.kla_fn "<lambda>" (X.env.qual ++ "<lambda>") params body scope (cloFrom X.env.cells scope.names []) pm (.ref c') ctv) ⟨[u], []⟩ = pure [(x, u)])
    (hbody : ∀ (A : Around) (outer : List Env) (s : Shared) (H : Hp), Room k (A.deeper (LamX.lamEnv X scope s.heap.objs.size f c')) → PE (lamCx1 X A outer s H E0 scope f c' x) body tb)
    (I : Inv X pins σ H s) (hl : SqT X.K H l (x0 :: xs)) (uf : H f = none) (hfr : f ∉ frs X.stack) (rf : FbM.Rec X pins f) (hc : H c' = some (LamX.CodeO c' (X.env.qual ++ "<lambda>"))) (hf : s.heap.get? f = some (lamObj X params body scope pm c' ctv))
    (hq : tb (σ ++ [some x0]) H fun kv H3 => ∃ t k, kv = .ref t ∧ SqT X.K H3 t [.int k.1, .int k.2] ∧ H3 c' = some (LamX.CodeO c' (X.env.qual ++ "<lambda>")) ∧ rMx X.K c' (X.env.qual ++ "<lambda>") tb σ Q xs x0 k H3)
    (hR : ∀ v u H' s', Inv X pins σ H' s' → RelV v u → Q v H' → Qf u s') :
    wpAny (model X.prog X.w) X.A (call (.builtin "max") [.ref l] [(Str.ofString "key", .ref f)]) Qf E s := by
  have hname : (toString "max" ++ toString ".loop" : String) = "max.loop" := by decide
  obtain ⟨its, rv, p, _⟩ := I.tuple hl
  have p' : s.heap.IsTuple l its.toArray := p
  obtain ⟨ol, hol, _⟩ := id p'
  have hll : l < s.heap.objs.size := Heap.lt_size hol
  refine PyProof.Rows.kmk_tree F.kind_max F.plain_max F.entry_max (PyProof.Rows.kmk_max_key _ _) ?_
  show wpAny _ X.A.in1 (Builtin.Builtins.bindParams "max" ["key", "default"] 0 ⟨[], [(Str.ofString "key", .ref f)]⟩ >>= _) _ _ s
  refine wpAny_bind (wpAny_of_eq (show Builtin.Builtins.bindParams "max" ["key", "default"] 0 ⟨[], [(Str.ofString "key", .ref f)]⟩ = pure [some (.ref f), none] from rfl) ?_)
  refine wpAny_bind (wpAny_pure ?_)
  refine wpAny_bind (wpAny_pyIter_tuple p' ?_)
  refine wpAny_bind (wpAny_newList ?_ (Nat.zero_le _))
  rw [hname]
  have hz : (s.heap.push { cls := .type "tuple_iterator", data := .fields #[.ref l, .int 0 0] }).objs.size = s.heap.objs.size + 1 := Heap.size_push ..
  have gI : ((s.heap.push { cls := .type "tuple_iterator", data := .fields #[.ref l, .int 0 0] }).push (seqObj "list" #[] 0)).get? s.heap.objs.size = some { cls := .type "tuple_iterator", data := .fields #[.ref l, .int 0 0] } :=
    Heap.get?_push_of_some _ (Heap.get?_push_size _ rfl)
  have gS : ((s.heap.push { cls := .type "tuple_iterator", data := .fields #[.ref l, .int 0 0] }).push (seqObj "list" #[] 0)).get? (s.heap.push { cls := .type "tuple_iterator", data := .fields #[.ref l, .int 0 0] }).objs.size = some (seqObj "list" #[] 0) := Heap.get?_push_size _ rfl
  generalize hS0 : (s.heap.push { cls := .type "tuple_iterator", data := .fields #[.ref l, .int 0 0] }).objs.size = S0 at *
  have hSz : S0 = s.heap.objs.size + 1 := hz
  have kp : ∀ b o, s.heap.get? b = some o → ((s.heap.push { cls := .type "tuple_iterator", data := .fields #[.ref l, .int 0 0] }).push (seqObj "list" #[] 0)).get? b = some o := fun b o e => Heap.get?_push_of_some _ (Heap.get?_push_of_some _ e)
  have hfl : f < s.heap.objs.size := Heap.lt_size hf
  generalize hh2 : (s.heap.push { cls := .type "tuple_iterator", data := .fields #[.ref l, .int 0 0] }).push (seqObj "list" #[] 0) = h2 at *
  have I2 : Inv X pins σ H { s with heap := h2 } := I.kept (t' := s.toks) kp
  have C : MxC X pins X.A f c' l s.heap.objs.size S0 pm ctv params body scope k x tb := ⟨L, hx, hh, hA, hr, hr.units0, hbind, hbody, FbM.rec_new I (Nat.le_refl _), FbM.rec_new I (by rw [hSz]; exact Nat.le_succ _), rf, by rw [hSz]; exact Nat.succ_ne_self _, Nat.ne_of_lt hfl, by rw [hSz]; exact Nat.ne_of_lt (Nat.lt_succ_of_lt hfl), Nat.ne_of_lt hll, by rw [hSz]; exact Nat.ne_of_lt (Nat.lt_succ_of_lt hll)⟩
  have M : MxS X pins σ f c' l s.heap.objs.size S0 pm ctv params body scope (x0 :: xs) 0 H { s with heap := h2 } := ⟨I2, hl, I.hok.fresh (Nat.le_refl _), I.hok.fresh (by rw [hSz]; exact Nat.le_succ _), uf, hc, kp _ _ hf, ⟨_, gI, rfl, rfl⟩⟩
  refine wpAny_pure ⟨plainId_quiet F.plain_max_loop _, ?_⟩
  refine codeAny_builtin F.entry_max_loop ?_
  rw [Around.under_plainId F.plain_max_loop _]
  show wpAny _ X.A.in1 (seqItems? (.ref S0) >>= _) _ _ _
  refine wpAny_bind (wpAny_seqItems gS rfl ?_)
  show wpAny _ X.A.in1 (tryCatch (pyNext (.ref s.heap.objs.size)) _ >>= _) _ _ _
  refine wpAny_bind (wpAny_tryCatch (mx_draw C M (i := 0) (v := x0) rfl gS hq fun u h' ru hcall => ?_))
  show wpAny _ X.A.in1 (tryCatch (holding [u] (call (.ref f) [u])) _ >>= _) _ _ _
  refine wpAny_bind (wpAny_tryCatch (wpAny_holding (hcall (fun ku kv H' s2 rk q hc2 M2 hS2 keepT => ?_) fun kv H' q => q.choose_spec.choose_spec.2.2.1)))
  obtain ⟨t, kk, rfl, hkt, _, hq2⟩ := q
  obtain rfl : ku = Value.ref t := rk
  show wpAny _ X.A.in1 (updateSeq S0 (fun _ => #[u, .ref t]) >>= _) _ _ _
  refine wpAny_bind ?_
  refine wpAny_updateSeq hS2 rfl ?_
  rw [hname]
  have I3 : Inv X pins σ H' { s2 with heap := s2.heap.update S0 (Obj.mapSeq fun _ => #[u, .ref t]) } := C.rS.turn (t' := s2.toks) M2.I M2.uS fun c o hc e => (Heap.get?_update_other _ _ (Ne.symm hc)).trans e
  have kp2 : ∀ b o, b ≠ S0 → s2.heap.get? b = some o → (s2.heap.update S0 (Obj.mapSeq fun _ => #[u, .ref t])).get? b = some o := fun b o hb e => (Heap.get?_update_other _ _ (Ne.symm hb)).trans e
  obtain ⟨oi, hoi, hci, hdi⟩ := id M2.hit
  exact wpAny_pure ⟨plainId_quiet F.plain_max_loop _, mx_loop C (fun v u H' s' a b c => hR v u H' s' a b c) xs 1 H' _ x0 u kk t _ rfl (by simp) ⟨I3, M2.hl, M2.ui, M2.uS, M2.uf, M2.hc, kp2 _ _ C.fS M2.hf, ⟨oi, kp2 _ _ (Ne.symm C.Si) hoi, hci, hdi⟩⟩ (Heap.get?_update_self _ hS2 rfl) ru hkt hq2 _⟩
end
/-! ### the lambda is made -/
section
variable {X : Cx} {pins : List (Addr × Obj)} {σ : L2.St} {H : Hp} {s : Shared}
theorem lam_make3 {c : Addr} {params : Arguments} {body : Expr} {scope : Scope} {pos : Pos} {E : Value → Shared → Prop} {Q : Value → Shared → Prop} (I : Inv X pins σ H s) (TB : LamX.TabB X.base X.mg c PL) (hcode : X.env.code = .ref c)
    (hq : X.env.qual ++ "<lambda>" = QL) (hT : LamX.TabS H PL QL) (hdef : defaultsOf params X.env = ([], [])) (hfree : ∀ y ∈ scope.names, y.2 = .free → ∃ c, X.env.cells.lookup y.1 = some c)
    (h : ∀ (f c' : Addr) (pm ctv : Value) (H1 : Hp) (s' : Shared), Inv X pins σ H1 s' → (∀ B, Same B H → B PL = none → Stp B H B H1) → s'.heap.get? f = some (lamObj X params body scope pm c' ctv) → H1 f = none → f ∉ frs X.stack → FbM.Rec X pins f → H1 c' = some (LamX.CodeO c' (X.env.qual ++ "<lambda>")) → Q (.ref f) s') :
    wpAny (model X.prog X.w) X.A (eval (.Lambda params body scope pos) X.env) Q E s := by
  rw [← hq] at hT
  obtain ⟨ps, hP, ht, ha⟩ := id hT
  refine PySem.W.kla_eval hdef ?_
  have bP : s.heap.BuiltinsAt X.mg PL := TB.bm.keeps I.bk
  have hP' : s.heap.get? PL = some { cls := .none, data := .fields ps } := I.hok PL _ hP
  have nofr : ∀ f, s.heap.objs.size ≤ f → f ∉ frs X.stack := fun f hf z => by
    rcases List.mem_cons.mp (I.stkSub _ z) with e | e
    · have h1 := I.lt
      rw [← e] at h1
      exact Nat.lt_irrefl _ (Nat.lt_of_lt_of_le h1 hf)
    · exact I.nofs hf e
  cases hc : codeAmong pos ps.toList with
  | none =>
    refine PySem.W.kla_makeFunction (mg := X.mg) (c := c) (P := PL) (ps := ps) (closure_ok hfree) I.ok.glob (I.mod.glob.keeps I.bk) hcode (TB.code.keeps I.bk) hP' ht hc TB.gP bP fun c' ctv h' tk hx hge hlt hrec htb => ?_
    obtain ⟨c2, oc, vs, t, e2, hoc, hd, hv⟩ := hrec
    cases e2
    have hsz : s.heap.objs.size ≤ h'.objs.size := Nat.le_trans hge (Nat.le_of_lt hlt)
    have nC : H c' = none := I.hok.fresh hge
    have I1 := LamX.inv_table (t' := tk) (more := #[rawInt pos.line, rawInt pos.col, .ref c']) (h' := h'.push (PySem.W.kla_obj "<lambda>" (X.env.qual ++ "<lambda>") params body scope (cloFrom X.env.cells scope.names []) ((X.mg "__name__").getD .none) c' ctv)) I hP
      (fun b o hb e => Heap.get?_push_of_some _ (hx b o hb e)) (Heap.get?_push_of_some _ htb) hge ⟨oc, vs, t, Heap.get?_push_of_some _ hoc, hd, hv⟩
    have hE : LamX.ExtN H (upd (upd H PL (.tbl (ps ++ #[rawInt pos.line, rawInt pos.col, .ref c']))) c' (LamX.CodeO c' (X.env.qual ++ "<lambda>"))) := fun b o e n => by
      rw [upd_ne (ne_of_none e nC), upd_ne (fun z => n ps (Option.some.inj (e.symm.trans (by rw [z]; exact hP))))]
      exact e
    have eL : (ps ++ #[rawInt pos.line, rawInt pos.col, .ref c']).toList = ps.toList ++ [rawInt pos.line, rawInt pos.col, .ref c'] := by simp
    have G : Gro H (upd (upd H PL (.tbl (ps ++ #[rawInt pos.line, rawInt pos.col, .ref c']))) c' (LamX.CodeO c' (X.env.qual ++ "<lambda>"))) := by
      refine ⟨hE, fun b m => ?_, fun _ => ?_⟩
      · by_cases h1 : b = c'
        · rw [h1, upd_same]; exact fun z => nomatch z
        · rw [upd_ne h1]
          by_cases h2 : b = PL
          · rw [h2, upd_same]; exact fun z => nomatch z
          · rw [upd_ne h2]; exact m
      · rw [← hq]
        refine ⟨_, by rw [upd_ne (ne_of_none hP nC), upd_same], by rw [eL]; exact PySem.TriplesOk_snoc _ _ _ _ ht, fun p' cv hcv => ?_⟩
        rw [eL] at hcv
        rcases LamX.among_app _ ht hcv with z | z
        · obtain ⟨c0, e1, e2⟩ := ha p' cv z
          exact ⟨c0, e1, hE _ _ e2 LamX.codeO_ne⟩
        · exact ⟨c', z, upd_same⟩
    refine h h'.objs.size c' ((X.mg "__name__").getD .none) ctv _ _ I1 (fun B sb bn => ⟨Same.refl _, G, fun b o e => ?_, fun a n _ => n⟩) (Heap.get?_push_size _ rfl) ?_ (nofr _ hsz) (FbM.rec_new I hsz) upd_same
    · rw [upd_ne (ne_of_none (sb _ _ e) nC), upd_ne (fun z => by rw [z, bn] at e; cases e)]
      exact sb _ _ e
    · have n1 : h'.objs.size ≠ c' := Nat.ne_of_gt hlt
      have n2 : h'.objs.size ≠ PL := Nat.ne_of_gt (Nat.lt_of_lt_of_le (Heap.lt_size hP') hsz)
      rw [upd_ne n1, upd_ne n2]
      exact I.hok.fresh hsz
  | some cv =>
    obtain ⟨c', e, hco⟩ := ha pos cv hc
    subst e
    refine PySem.W.kla_makeFunctionHit (mg := X.mg) (c := c) (P := PL) (ps := ps) (closure_ok hfree) I.ok.glob (I.mod.glob.keeps I.bk) hcode (TB.code.keeps I.bk) hP' ht hc bP fun ctv h' tk hx hsz => ?_
    have I1 : Inv X pins σ H { s with heap := h'.push (PySem.W.kla_obj "<lambda>" (X.env.qual ++ "<lambda>") params body scope (cloFrom X.env.cells scope.names []) ((X.mg "__name__").getD .none) c' ctv), toks := tk } := I.kept fun b o e => Heap.get?_push_of_some _ (hx b o e)
    exact h h'.objs.size c' ((X.mg "__name__").getD .none) ctv H _ I1 (fun B sb _ => .refl sb) (Heap.get?_push_size _ rfl) (I.hok.fresh hsz) (nofr _ hsz) (FbM.rec_new I hsz) hco
end
/-- max(e, key=lambda x: body) -/
def tMaxL (K : PySem.W.Frag) (q : Str) (ta : TA) (tb : TE) : TE := fun σ H Q => ta σ H fun vs H1 => ∃ l x0 xs, vs = [V.ref l] ∧ SqT K H1 l (x0 :: xs) ∧ LamX.TabS H1 PL QL ∧ ∀ c' H2, (∀ B, Same B H1 → B PL = none → Stp B H1 B H2) → H2 c' = some (LamX.CodeO c' q) →
  tb (σ ++ [some x0]) H2 fun kv H3 => ∃ t k, kv = .ref t ∧ SqT K H3 t [.int k.1, .int k.2] ∧ H3 c' = some (LamX.CodeO c' q) ∧ rMx K c' q tb σ Q xs x0 k H3
theorem pe_maxL {X : Cx} {K : PySem.W.Frag} {k : Nat} {c : Addr} {q : Str} {e : Expr} {params : Arguments} {body : Expr} {scope : Scope} {lpos kpos p pos : Pos} {x : Str} {ta : TA} {tb : TE} (hK : X.K = K) (hg : Gl X "max") (hm : X.mg "max" = none) (ha : PA X [e] ta)
    (TB : LamX.TabB X.base X.mg c PL) (hcode : X.env.code = .ref c) (hq : X.env.qual ++ "<lambda>" = q) (hqL : q = QL) (L : Lam1 X.env.scope scope x) (hx : x ∉ X.N) (hr : Room (k + 2) X.A)
    (hbody : ∀ (A : Around) (outer : List Env) (s : Shared) (H : Hp) (f c' : Addr), Room k (A.deeper (LamX.lamEnv X scope s.heap.objs.size f c')) → PE (lamCx1 X A outer s H E0 scope f c' x) body tb)
    (hdef : defaultsOf params X.env = ([], []) := by rfl)
    (hbind : ∀ (q : Str) (cl : List (Str × Addr)) (pm cv ctv u : Value), bindArgs (PySem.W.kla_fn "<lambda>" q params body scope cl pm cv ctv) ⟨[u], []⟩ = pure [(x, u)] := by intros; rfl)
    (he : backTo pos (starEach [e] X.env) = (false, eval e X.env) :: backTo pos (starEach [] X.env) := by rfl) (hpl : (backTo pos (starEach [e] X.env)).any (·.1) = false := by rfl)
    (hall : (backToKw pos (keywordEach [⟨some "key", .Lambda params body scope lpos, kpos⟩] X.env)).all (·.1.isSome) = true := by rfl) (hnone : (backToKw pos (keywordEach [⟨some "key", .Lambda params body scope lpos, kpos⟩] X.env)).any (·.1.isNone) = false := by rfl)
    (hks : (backToKw pos (keywordEach [⟨some "key", .Lambda params body scope lpos, kpos⟩] X.env)).filterMap (·.1) = [Str.ofString "key"] := by rfl) :
    PE X (.Call (.Name "max" p) [e] [⟨some "key", .Lambda params body scope lpos, kpos⟩] pos) (tMaxL K q ta tb) := by
  subst hK
  refine ⟨fun pins s σ H Q I h => ?_⟩
  refine wpAny_Call_Name_kw (ld_blt I hg hm boot_max ?_ (by decide) (by decide))
  refine PyProof.Rows.callWith_kw (thn (ha.run pos pins s σ H _ I h) fun us s1 ⟨vs, H1, I1, r1, l, x0, xs, ev, hl, hT, hcont⟩ => ?_) he hpl hall hnone
  subst ev
  obtain ⟨u1, rfl, ru⟩ := vals1 r1
  obtain rfl : u1 = Value.ref l := ru
  rw [hks]
  show wpAny _ _ (evalAll ((do let v ← eval (.Lambda params body scope lpos) X.env; standAt pos; pure v) :: (backToKw pos (keywordEach [] X.env)).map (·.2))) _ _ s1
  refine wpAny_evalAll_cons (wpAny_bind (lam_make3 I1 TB hcode (hq.trans hqL) hT hdef (L.has I1.ok) fun f c' pm ctv H2 s2 I2 st hf hfn hfr rf hc => ?_))
  refine wpAny_bind (wpAny_standAt (wpAny_pure ?_))
  refine wpAny_evalAll_nil ?_
  subst hq
  exact max_call (k := k) I2.ok.frames L hx hr.hd (hr.in1) (fun u => hbind _ _ _ _ _ u) (fun A outer s H hr' => hbody A outer s H f c' hr') I2 (sqt_monoG (st (fun _ => none) (fun _ _ z => nomatch z) rfl).h hl) hfn hfr rf hc hf (hcont c' H2 st hc) (fun v u H' s' a b c => ⟨v, H', a, b, c⟩)
end Od

namespace Od
open PySem PySem.Spec PyProof.Rows L2

def maxR (kf : Int → Int × Int) : List Int → Int → Int
  | [], b => b
  | x :: r, b => if gt2 (kf x) (kf b) = true then maxR kf r x else maxR kf r b
def maxK (kf : Int → Int × Int) : List Int → Int
  | [] => 0
  | x :: r => maxR kf r x
theorem maxR_mem {kf : Int → Int × Int} : ∀ {r : List Int} {b : Int}, maxR kf r b ∈ b :: r
  | [], b => List.mem_cons_self
  | x :: r, b => by
    unfold maxR
    split
    · exact List.mem_cons_of_mem _ maxR_mem
    · rcases List.mem_cons.mp (maxR_mem (kf := kf) (r := r) (b := b)) with e | e
      · rw [e]; exact List.mem_cons_self
      · exact List.mem_cons_of_mem _ (List.mem_cons_of_mem _ e)
theorem maxK_mem {kf : Int → Int × Int} {l : List Int} (h : l ≠ []) : maxK kf l ∈ l := by
  cases l with
  | nil => exact absurd rfl h
  | cons x r => exact maxR_mem
section
variable {K : PySem.W.Frag} {B H : Hp} {s : L2.St} {r : Rho}
theorem EnvR.push (e : EnvR K B H s r) {v : V} {d : PyData} (h : Dp K B v d) : EnvR K B H (s ++ [some v]) (r ++ [.im d]) where
  i := e.i
  tb := e.tb
  len := by rw [List.length_append, List.length_append, e.len]; rfl
  im := fun {n d'} h' => by
    have hl := e.len
    by_cases q : n < r.length
    · rw [List.getElem?_append_left q] at h'
      obtain ⟨w, h1, h2⟩ := e.im h'
      exact ⟨w, by rw [List.getElem?_append_left (by omega)]; exact h1, h2⟩
    · rw [List.getElem?_append_right (by omega)] at h'
      have h0 : n - r.length = 0 := by
        have := (List.getElem?_eq_some_iff.mp h').1
        rw [List.length_singleton] at this
        omega
      rw [h0] at h'
      cases h'
      exact ⟨v, by rw [List.getElem?_append_right (by omega), show n - s.length = 0 by omega]; rfl, h⟩
  ow := fun {n ds} h' => by
    have hl := e.len
    by_cases q : n < r.length
    · rw [List.getElem?_append_left q] at h'
      obtain ⟨l, xs, h1, h2⟩ := e.ow h'
      exact ⟨l, xs, by rw [List.getElem?_append_left (by omega)]; exact h1, h2⟩
    · rw [List.getElem?_append_right (by omega)] at h'
      have h0 : n - r.length = 0 := by
        have := (List.getElem?_eq_some_iff.mp h').1
        rw [List.length_singleton] at this
        omega
      rw [h0] at h'
      cases h'
  ne := fun {n m ds es l} h1 h2 h3 h4 => by
    have hl := e.len
    have lt : ∀ {n : Nat} {ds : List PyData}, (r ++ [Sl.im d])[n]? = some (.ow ds) → n < r.length := fun {n ds} h => by
      rcases Nat.lt_or_ge n r.length with z | z
      · exact z
      · rw [List.getElem?_append_right z] at h
        have h0 : n - r.length = 0 := by
          have := (List.getElem?_eq_some_iff.mp h).1
          rw [List.length_singleton] at this
          omega
        rw [h0] at h
        cases h
    have a := lt h1
    have b := lt h2
    rw [List.getElem?_append_left a] at h1
    rw [List.getElem?_append_left b] at h2
    rw [List.getElem?_append_left (by omega)] at h3 h4
    exact e.ne h1 h2 h3 h4
theorem dp_pair {v : V} {k : Int × Int} (h : Dp K B v (.tuple [.int k.1, .int k.2])) : ∃ t, v = .ref t ∧ SqT K B t [.int k.1, .int k.2] := by
  cases h with
  | tup q1 q2 =>
    have e := dpa_ints_inv (ns := [k.1, k.2]) q2
    subst e
    exact ⟨_, rfl, q1⟩
theorem rmx_of {c' : Addr} {q : Str} {tb : TE} {kf : Int → Int × Int} {Q : VK} {ns : List Int} (hb : ∀ n ∈ ns, EvD K tb (r ++ [.im (.int n)]) (.tuple [.int (kf n).1, .int (kf n).2])) :
    ∀ (l : List Int) (b : Int) (B H : Hp), (∀ n ∈ l, n ∈ ns) → EnvR K B H s r → H c' = some (LamX.CodeO c' q) → (∀ B' H', Stp B H B' H' → Q (.int (maxR kf l b)) H') → rMx K c' q tb s Q (l.map .int) (.int b) (kf b) H
  | [], b, B, H, _, E, hc, k => k B H (.refl E.i)
  | x :: l, b, B, H, hm, E, hc, k => by
    refine hb x (hm x List.mem_cons_self) B H _ (E.push (.int x)) _ fun kv B3 H3 x3 hk => ?_
    obtain ⟨t, rfl, hq⟩ := dp_pair hk
    have hc3 := x3.h.e c' _ hc fun ps => LamX.codeO_ne ps
    refine ⟨t, kf x, rfl, sqt_mono x3.i hq, hc3, ?_⟩
    by_cases g : gt2 (kf x) (kf b) = true
    · rw [if_pos g]
      refine rmx_of hb l x B3 H3 (fun n hn => hm n (List.mem_cons_of_mem _ hn)) (E.mono x3) hc3 fun B' H' x' => ?_
      have := k B' H' (x3.trans x')
      unfold maxR at this
      rw [if_pos g] at this
      exact this
    · rw [if_neg g]
      refine rmx_of hb l b B3 H3 (fun n hn => hm n (List.mem_cons_of_mem _ hn)) (E.mono x3) hc3 fun B' H' x' => ?_
      have := k B' H' (x3.trans x')
      unfold maxR at this
      rw [if_neg g] at this
      exact this
theorem ev_maxL {ta : TA} {tb : TE} {q : Str} {ns : List Int} (kf : Int → Int × Int) (ha : EvA K ta r [tI ns]) (hne : ns ≠ []) (hb : ∀ n ∈ ns, EvD K tb (r ++ [.im (.int n)]) (.tuple [.int (kf n).1, .int (kf n).2])) :
    EvD K (tMaxL K q ta tb) r (.int (maxK kf ns)) := fun B H s E Q k => by
  refine ha B H s E _ fun vs B1 H1 x1 hv => ?_
  cases hv with
  | cons a b =>
    cases b
    cases a with
    | tup q1 q2 =>
      have e := dpa_ints_inv q2
      subst e
      cases ns with
      | nil => exact absurd rfl hne
      | cons n ns =>
        refine ⟨_, _, _, rfl, sqt_mono x1.i q1, (x1.tb E.tb).t, fun c' H2 st hc => ?_⟩
        have x2 := st B1 x1.i (x1.tb E.tb).b
        have E2 := (E.mono x1).mono x2
        refine hb n List.mem_cons_self B1 H2 _ (E2.push (.int n)) _ fun kv B3 H3 x3 hk => ?_
        obtain ⟨t, rfl, hq⟩ := dp_pair hk
        have hc3 := x3.h.e c' _ hc fun ps => LamX.codeO_ne ps
        exact ⟨t, kf n, rfl, sqt_mono x3.i hq, hc3, rmx_of hb ns n B3 H3 (fun m hm => List.mem_cons_of_mem _ hm) (E2.mono x3) hc3 fun B' H' x' => k _ B' H' (((x1.trans x2).trans x3).trans x') (.int _)⟩
end
end Od

namespace Od
open PySem PySem.Spec PyProof.Rows L2
section
variable {P : Program} {w : World} {K : PySem.W.Frag} {mg : Str → Option Value} {base : Heap}
/-- as Fun.ok, for a def whose code object is known -/
theorem Fun_okC {x qual : Str} {st : Stmt} {f : Addr} {fd : FuncData} {N ps : List Str} {k : Nat} {sp : Sp} {cdA : Value} (F : Fun K x qual st f fd) (hcA : fd.code = cdA) (S : FnScope N ps (defScope st)) (len : ∀ vs H Q E, sp vs H Q E → vs.length = ps.length)
    (hbody : ∀ (A : Around) (outer : List Env) (s : Shared) (H : Hp) (vs : List V) (Q : VK) (E : XK), Room k (A.deeper (envOfC qual (defScope st) s.heap.objs.size f cdA)) → sp vs H Q E →
      ∃ t, PSs (cxOf CX0 P w K mg base N qual (defScope st) f cdA A outer s H E).nox (defBody st) t ∧ t { nx := fun _ H' => Q .non H', rt := Q } (L2.start N vs) H) : FnOk P w K mg base CX0 (k + 1) f fd ps sp := by
  obtain ⟨oc, od, kV, doc, pm, an, cdv, ct, osl, rfl, lk, hcd⟩ := F.ex
  have e : cdv = cdA := hcA
  subst e
  refine fn_of lk hcd S len fun A outer s H vs Q E hr hsp => ?_
  obtain ⟨t, h, q⟩ := hbody A outer s H vs Q E hr hsp
  exact ⟨t, h.nox, q⟩
end
section
variable {K : PySem.W.Frag} {r : Rho} {ta tb tc te : TE} {i j k : Int} {ds : List PyData}
theorem pe_notTK {X : Cx} {K : PySem.W.Frag} {a : Expr} {ta : TE} {pos : Pos} (h : X.K = K) (ha : PE X a ta) : PE X (.UnaryOp .Not a pos) (tNotT K ta) := h ▸ pe_notT ha
theorem ev_notT (h : EvQ K te r ds) : EvD K (tNotT K te) r (.bool ds.isEmpty) := fun B H s E Q k => h B H s E _ fun v B1 H1 x1 ⟨a, xs, h1, h2, h3⟩ => by
  subst h1
  have e : xs.isEmpty = ds.isEmpty := by cases h3 <;> rfl
  refine ⟨!ds.isEmpty, ?_, k _ B1 H1 x1 (by rw [Bool.not_not]; exact .bl _)⟩
  rcases h2 with h2 | h2
  · exact .inl ⟨xs, h2, by rw [e]⟩
  · exact .inr (.inl ⟨xs, h2, by rw [e]⟩)
theorem ev_chainLe (ha : EvD K ta r (.int i)) (hb : EvD K tb r (.int j)) (hc : EvD K tc r (.int k)) : EvD K (tChain (rI0 fun i j => .bl (decide (i ≤ j))) (rI0 fun i j => .bl (decide (i ≤ j))) ta tb tc) r (.bool (decide (i ≤ j) && decide (j ≤ k))) := fun B H s E Q kk =>
  ha B H s E _ fun x B1 H1 x1 h1 => hb B1 H1 s (E.mono x1) _ fun y B2 H2 x2 h2 => by
    cases h1; cases h2
    refine ⟨i, j, rfl, rfl, decide (i ≤ j), rfl, ?_⟩
    by_cases h : i ≤ j
    · rw [decide_eq_true h, if_pos rfl]
      refine hc B2 H2 s ((E.mono x1).mono x2) _ fun z B3 H3 x3 h3 => ?_
      cases h3
      refine ⟨j, k, rfl, rfl, kk _ B3 H3 ((x1.trans x2).trans x3) ?_⟩
      rw [decide_eq_true h, Bool.true_and]; exact .bl _
    · rw [decide_eq_false h, if_neg Bool.false_ne_true]
      refine kk _ B2 H2 (x1.trans x2) ?_
      rw [decide_eq_false h, Bool.false_and]; exact .bl _
end
/-- the law's own start: the script alone is known -/
theorem sp_start {K : PySem.W.Frag} {F : List PyData → PyData → Prop} {H : Hp} {a : Addr} {ns : List Int} (hT : H PL = some (.tbl #[])) (hS : SqL K H a (ns.map V.int)) (hF : F [lI ns] (.bool true)) : spR K F [.ref a] H (fun v _ => v = .bl true) fun _ _ _ => False := by
  refine ⟨fun b => if b = PL then none else H b, [lI ns], .bool true, fun b o e => ?_, ⟨if_pos rfl, LamX.TabS.nil hT⟩, .cons (.lst ?_ (dpa_ints ns)) .nil, hF, fun v B' H' _ h => by cases h; rfl⟩
  · dsimp only at e
    split at e
    · cases e
    · exact e
  · rcases hS with (h | ⟨o, h⟩) | h
    · exact .inl (.inl (by dsimp only; rw [if_neg (fun z => by rw [z, hT] at h; cases h)]; exact h))
    · exact .inl (.inr ⟨o, by dsimp only; rw [if_neg (fun z => by rw [z, hT] at h; cases h)]; exact h⟩)
    · exact .inr h
end Od

namespace Od
open PySem PySem.Spec PyProof.Rows L2

/-! ### law k04: the mark goes round -/
/-- the first c hands have v, the others the one ahead of it -/
def rs (n : Nat) (z v : Int) (c : Nat) : List Int := (irange 0 n).map fun (k : Int) => if k < (c : Int) then v % z else (v - 1) % z
theorem rs_len {n : Nat} {z v : Int} {c : Nat} : (rs n z v c).length = n := by unfold rs; rw [List.length_map, irange_len]
theorem rs_get {n : Nat} {z v : Int} {c i : Nat} (h : i < n) : (rs n z v c).getD i 0 = if i < c then v % z else (v - 1) % z := by
  unfold rs
  rw [getD_mapr h]
  by_cases q : i < c
  · rw [if_pos q, if_pos (by omega)]
  · rw [if_neg q, if_neg (by omega)]
theorem step_ne {z v : Int} (hz : 2 ≤ z) : v % z ≠ (v - 1) % z := by
  intro h
  have h1 : (v - (v - 1)) % z = 0 := Int.emod_eq_emod_iff_emod_sub_eq_zero.mp h
  rw [show v - (v - 1) = 1 by omega, Int.emod_eq_of_lt (by omega) (by omega)] at h1
  omega
theorem rs_marks {n : Nat} {z v : Int} {c : Nat} (hn : 2 ≤ n) (hz : 2 ≤ z) (h1 : 1 ≤ c) (h2 : c ≤ n) : marks (rs n z v c) = [((c % n : Nat) : Int)] := by
  unfold marks
  rw [rs_len]
  have hm : c % n < n := Nat.mod_lt _ (by omega)
  refine filter_single (by omega) (by omega) fun k k0 k1 => ?_
  have ne := step_ne (v := v) hz
  have ec : c % n = if c = n then 0 else c := by
    by_cases q : c = n
    · rw [if_pos q, q, Nat.mod_self]
    · rw [if_neg q, Nat.mod_eq_of_lt (by omega)]
  unfold hasMark
  by_cases e : k = 0
  · subst e
    rw [if_pos rfl, rs_len, rs_get (by omega), rs_get (by omega), if_pos (by omega)]
    by_cases q : c = n
    · rw [if_pos (by omega), decide_eq_true rfl, ec, if_pos q]; simp
    · rw [if_neg (by omega), decide_eq_false ne, ec, if_neg q]
      constructor
      · intro z; cases z
      · intro z; omega
  · rw [if_neg e, rs_get (by omega), rs_get (by omega)]
    by_cases q : k.toNat < c
    · rw [if_pos q, if_pos (by omega), decide_eq_true rfl]
      constructor
      · intro z; cases z
      · intro z
        rw [ec] at z
        split at z <;> omega
    · rw [if_neg q]
      by_cases q2 : k.toNat - 1 < c
      · rw [if_pos q2, decide_eq_false (fun z => ne z.symm)]
        constructor
        · intro _
          rw [ec, if_neg (by omega)]; omega
        · intro _; rfl
      · rw [if_neg q2, decide_eq_true rfl]
        constructor
        · intro z; cases z
        · intro z
          rw [ec] at z
          split at z <;> omega
theorem rs_new0 {n : Nat} {z v : Int} (hn : 2 ≤ n) : newNum (rs n z v n) z 0 = (v + 1) % z := by
  unfold newNum
  rw [if_pos rfl, rs_get (by omega), if_pos (by omega), Int.emod_add_emod]
theorem rs_new {n : Nat} {z v : Int} {c : Nat} (h1 : 1 ≤ c) (h2 : c < n) : newNum (rs n z v c) z (c : Int) = v % z := by
  unfold newNum
  rw [if_neg (by omega), rs_get (by omega), if_pos (by omega)]
theorem rs_move {n : Nat} {z v : Int} {c : Nat} (hn : 2 ≤ n) (hz : 2 ≤ z) (h1 : 1 ≤ c) (h2 : c ≤ n) :
    moved (rs n z v c) z ((c % n : Nat) : Int) = if c = n then rs n z (v + 1) 1 else rs n z v (c + 1) := by
  by_cases q : c = n
  · subst q
    rw [if_pos rfl, Nat.mod_self]
    unfold moved
    rw [show ((0 : Nat) : Int) = 0 from rfl, rs_new0 hn]
    refine ext_getD (by rw [List.length_set, rs_len, rs_len]) fun i hi => ?_
    rw [List.length_set, rs_len] at hi
    rw [getD_set (by rw [rs_len]; exact Nat.lt_of_lt_of_le (by decide) hn), rs_get hi, rs_get hi]
    by_cases e : i = 0
    · subst e
      rw [if_pos (by omega), if_pos (by omega)]
    · rw [if_neg (show ¬ i = Int.toNat 0 from e), if_pos (by omega), if_neg (by omega), show v + 1 - 1 = v by omega]
  · rw [if_neg q, Nat.mod_eq_of_lt (by omega)]
    unfold moved
    rw [rs_new h1 (by omega)]
    refine ext_getD (by rw [List.length_set, rs_len, rs_len]) fun i hi => ?_
    rw [List.length_set, rs_len] at hi
    rw [getD_set (by rw [rs_len]; omega), rs_get hi, rs_get hi]
    by_cases e : i = c
    · subst e
      rw [if_pos (by omega), if_pos (by omega)]
    · rw [if_neg (by simpa using e)]
      by_cases q2 : i < c
      · rw [if_pos q2, if_pos (by omega)]
      · rw [if_neg q2, if_neg (by omega)]
theorem rs_shift {n : Nat} {z v : Int} {c : Nat} : shifted (rs n z v c) z 1 = rs n z (v + 1) c := by
  refine ext_getD (by rw [shifted_len, rs_len, rs_len]) fun i hi => ?_
  rw [shifted_len, rs_len] at hi
  unfold shifted
  rw [getD_map (by rw [rs_len]; exact hi), rs_get hi, rs_get hi]
  by_cases q : i < c
  · rw [if_pos q, if_pos q, Int.emod_add_emod]
  · rw [if_neg q, if_neg q, Int.emod_add_emod]; congr 1; omega
theorem rs_round {n : Nat} {z v : Int} {c : Nat} : rs n z (v + z) c = rs n z v c := by
  unfold rs
  refine List.map_congr_left fun k _ => ?_
  rw [Int.add_emod_right, show v + z - 1 = v - 1 + z by omega, Int.add_emod_right]
end Od

namespace Od
open PySem PySem.Spec PyProof.Rows L2

/-! ### sums -/
def isum (f : Int → Int) (lo : Int) : Nat → Int
  | 0 => 0
  | k + 1 => isum f lo k + f (lo + k)
theorem isum_le {f g : Int → Int} {lo : Int} : ∀ {k : Nat}, (∀ i, lo ≤ i → i < lo + k → f i ≤ g i) → isum f lo k ≤ isum g lo k
  | 0, _ => Int.le_refl _
  | k + 1, h => by
    have ih := isum_le (f := f) (g := g) (lo := lo) (k := k) fun i h0 h1 => h i h0 (by omega)
    have := h (lo + k) (by omega) (by omega)
    unfold isum
    omega
theorem isum_add {f g : Int → Int} {lo : Int} : ∀ {k : Nat}, isum (fun i => f i + g i) lo k = isum f lo k + isum g lo k
  | 0 => rfl
  | k + 1 => by
    have ih := isum_add (f := f) (g := g) (lo := lo) (k := k)
    unfold isum
    rw [ih]; omega
theorem isum_at {h c lo : Int} : ∀ {k : Nat}, isum (fun i => if i = h then c else 0) lo k = if lo ≤ h ∧ h < lo + k then c else 0
  | 0 => by unfold isum; rw [if_neg (by omega)]
  | k + 1 => by
    have ih := isum_at (h := h) (c := c) (lo := lo) (k := k)
    unfold isum
    rw [ih]
    by_cases e : lo + (k : Int) = h
    · rw [if_pos e, if_neg (by omega), if_pos (by omega)]; omega
    · rw [if_neg e]
      by_cases q : lo ≤ h ∧ h < lo + (k : Int)
      · rw [if_pos q, if_pos (by omega)]; omega
      · rw [if_neg q, if_neg (by omega)]; rfl
theorem isum_nn {f : Int → Int} {lo : Int} : ∀ {k : Nat}, (∀ i, lo ≤ i → i < lo + k → 0 ≤ f i) → 0 ≤ isum f lo k
  | 0, _ => Int.le_refl _
  | k + 1, h => by
    have ih := isum_nn (f := f) (lo := lo) (k := k) fun i h0 h1 => h i h0 (by omega)
    have := h (lo + k) (by omega) (by omega)
    unfold isum
    omega
theorem isum_one {f : Int → Int} {lo : Int} : ∀ {k : Nat} {i : Int}, (∀ i, lo ≤ i → i < lo + k → 0 ≤ f i) → lo ≤ i → i < lo + k → f i ≤ isum f lo k
  | 0, i, _, h0, h1 => by omega
  | k + 1, i, h, h0, h1 => by
    have h2 := isum_nn (f := f) (lo := lo) (k := k) fun i h0 h1 => h i h0 (by omega)
    have h3 := h (lo + k) (by omega) (by omega)
    unfold isum
    by_cases e : i = lo + (k : Int)
    · rw [e]; omega
    · have ih := isum_one (f := f) (lo := lo) (k := k) (i := i) (fun i h0 h1 => h i h0 (by omega)) h0 (by omega)
      omega
theorem isum_tri {n : Int} : ∀ {k : Nat}, 2 * isum (fun i => n - i) 1 k = 2 * (k : Int) * n - (k : Int) * (k + 1)
  | 0 => by unfold isum; simp
  | k + 1 => by
    have ih := isum_tri (n := n) (k := k)
    unfold isum
    rw [Int.mul_add, ih]
    have e1 : 2 * ((k + 1 : Nat) : Int) * n = 2 * (k : Int) * n + 2 * n := by
      rw [show ((k + 1 : Nat) : Int) = (k : Int) + 1 by omega, Int.mul_add, Int.add_mul]; omega
    have e2 : ((k + 1 : Nat) : Int) * (((k + 1 : Nat) : Int) + 1) = (k : Int) * (k + 1) + 2 * k + 2 := by
      rw [show ((k + 1 : Nat) : Int) = (k : Int) + 1 by omega, Int.add_mul, Int.mul_add, Int.mul_add, Int.mul_add]; omega
    rw [e1, e2]
    omega
theorem getD_set_ne {l : List Int} {i j : Nat} {x : Int} (h : j ≠ i) : (l.set i x).getD j 0 = l.getD j 0 := by
  rw [List.getD_eq_getElem?_getD, List.getD_eq_getElem?_getD, List.getElem?_set, if_neg (fun z => h z.symm)]
/-! ### the ring -/
abbrev st (s : List Int) (i : Int) : Int := s.getD i.toNat 0
/-- how far the borders are from the end -/
def bord (s : List Int) (i : Int) : Int := if st s i = st s (i - 1) then 0 else (s.length : Int) - i
def far (s : List Int) : Int := isum (bord s) 1 (s.length - 1)
section
variable {s : List Int} {z h : Int}
theorem mark_pos (h0 : 0 < h) : hasMark s h = true ↔ st s h ≠ st s (h - 1) := by
  unfold hasMark st
  rw [if_neg (by omega), show (h - 1).toNat = h.toNat - 1 by omega]
  cases q : decide (s.getD h.toNat 0 = s.getD (h.toNat - 1) 0) with
  | true => exact ⟨fun e => (by cases e), fun e => absurd (of_decide_eq_true q) e⟩
  | false => exact ⟨fun _ => of_decide_eq_false q, fun _ => rfl⟩
theorem mark_zero : hasMark s 0 = true ↔ st s 0 = st s ((s.length : Int) - 1) := by
  unfold hasMark st
  rw [if_pos rfl, show ((s.length : Int) - 1).toNat = s.length - 1 by omega]
  exact decide_eq_true_iff
theorem st_moved (h0 : 0 ≤ h) (h1 : h < s.length) {i : Int} (i0 : 0 ≤ i) : st (moved s z h) i = if i = h then newNum s z h else st s i := by
  unfold st moved
  rw [getD_set (by omega)]
  by_cases e : i = h
  · rw [if_pos e, if_pos (by omega)]
  · rw [if_neg e, if_neg (by omega)]
theorem new_pos (h0 : 0 < h) : newNum s z h = st s (h - 1) := by
  unfold newNum st
  rw [if_neg (by omega), show (h - 1).toNat = h.toNat - 1 by omega]
theorem bord_nn {i : Int} (h : i < s.length) : 0 ≤ bord s i := by
  unfold bord
  split
  · exact Int.le_refl _
  · omega
theorem far_nn : 0 ≤ far s := isum_nn fun i h0 h1 => bord_nn (by omega)
theorem far_step (h0 : 0 < h) (hm : h ∈ marks s) : far (moved s z h) ≤ far s - 1 := by
  have a := marks_mem.mp hm
  have mk := (mark_pos h0).mp a.2.2
  have sm : ∀ {i : Int}, 0 ≤ i → st (moved s z h) i = if i = h then st s (h - 1) else st s i := fun i0 => by rw [st_moved a.1 a.2.1 i0, new_pos h0]
  have key : isum (bord (moved s z h)) 1 (s.length - 1) ≤ isum (fun i => bord s i + ((if i = h then -((s.length : Int) - h) else 0) + (if i = h + 1 then (s.length : Int) - h - 1 else 0))) 1 (s.length - 1) := by
    refine isum_le fun i i0 i1 => ?_
    by_cases e : i = h
    · subst e
      rw [if_pos rfl, if_neg (by omega)]
      unfold bord
      rw [sm (by omega), sm (by omega), if_pos rfl, if_neg (show ¬ i - 1 = i by omega), if_pos rfl, if_neg mk]
      omega
    · rw [if_neg e]
      by_cases e2 : i = h + 1
      · rw [if_pos e2]
        have := bord_nn (s := s) (i := i) (by omega)
        unfold bord at this ⊢
        rw [moved_len]
        split
        · omega
        · split at this <;> omega
      · rw [if_neg e2]
        unfold bord
        rw [sm (by omega), sm (by omega), if_neg e, if_neg (show ¬ i - 1 = h by omega), moved_len]
        omega
  rw [isum_add, isum_add, isum_at, isum_at] at key
  have hf : far (moved s z h) = isum (bord (moved s z h)) 1 (s.length - 1) := by unfold far; rw [moved_len]
  rw [hf]
  unfold far
  rw [if_pos (by omega)] at key
  split at key <;> omega
theorem far_zero (hn : 2 ≤ s.length) : far (moved s z 0) ≤ far s + ((s.length : Int) - 1) := by
  have sm : ∀ {i : Int}, 0 ≤ i → st (moved s z 0) i = if i = 0 then newNum s z 0 else st s i := fun i0 => st_moved (by omega) (by omega) i0
  have key : isum (bord (moved s z 0)) 1 (s.length - 1) ≤ isum (fun i => bord s i + (if i = 1 then (s.length : Int) - 1 else 0)) 1 (s.length - 1) := by
    refine isum_le fun i i0 i1 => ?_
    by_cases e : i = 1
    · subst e
      rw [if_pos rfl]
      have := bord_nn (s := s) (i := 1) (by omega)
      unfold bord at this ⊢
      rw [moved_len]
      split
      · omega
      · split at this <;> omega
    · rw [if_neg e]
      unfold bord
      rw [sm (by omega), sm (by omega), if_neg (show ¬ i = 0 by omega), if_neg (show ¬ i - 1 = 0 by omega), moved_len]
      omega
  rw [isum_add, isum_at, if_pos (by omega)] at key
  have hf : far (moved s z 0) = isum (bord (moved s z 0)) 1 (s.length - 1) := by unfold far; rw [moved_len]
  rw [hf]
  exact key
theorem far_top : 2 * far s ≤ (s.length : Int) * ((s.length : Int) - 1) := by
  have h1 : far s ≤ isum (fun i => (s.length : Int) - i) 1 (s.length - 1) := isum_le fun i i0 i1 => by
    unfold bord
    split <;> omega
  have h2 := isum_tri (n := (s.length : Int)) (k := s.length - 1)
  by_cases q : s.length = 0
  · have : far s = 0 := by unfold far; rw [q]; rfl
    rw [this, q]; decide
  · have e : ((s.length - 1 : Nat) : Int) = (s.length : Int) - 1 := by omega
    rw [e, show (s.length : Int) - 1 + 1 = s.length by omega] at h2
    have e3 : 2 * ((s.length : Int) - 1) * (s.length : Int) - ((s.length : Int) - 1) * (s.length : Int) = (s.length : Int) * ((s.length : Int) - 1) := by
      rw [Int.mul_assoc, Int.mul_comm ((s.length : Int) - 1) (s.length : Int)]; omega
    omega
end
/-! ### one mark: it stays so -/
def Leg (n : Nat) (z : Int) (s : List Int) : Prop := ∃ v c, 1 ≤ c ∧ c ≤ n ∧ s = rs n z v c
section
variable {n : Nat} {s : List Int} {z h : Int}
theorem Leg.one (hn : 2 ≤ n) (hz : 2 ≤ z) (L : Leg n z s) : ∃ k, marks s = [k] := by
  obtain ⟨v, c, h1, h2, rfl⟩ := L
  exact ⟨_, rs_marks hn hz h1 h2⟩
theorem Leg.step (hn : 2 ≤ n) (hz : 2 ≤ z) (L : Leg n z s) (hm : h ∈ marks s) : Leg n z (moved s z h) := by
  obtain ⟨v, c, h1, h2, rfl⟩ := L
  rw [rs_marks hn hz h1 h2, List.mem_singleton] at hm
  subst hm
  rw [rs_move hn hz h1 h2]
  split
  · exact ⟨v + 1, 1, Nat.le_refl _, by omega, rfl⟩
  · exact ⟨v, c + 1, by omega, by omega, rfl⟩
theorem leg_all (hl : s.length = n) (hn : 2 ≤ n) (v : Int) (h : ∀ i : Int, 0 ≤ i → i < n → st s i = v % z) : Leg n z s := by
  refine ⟨v, n, by omega, Nat.le_refl _, ext_getD (by rw [rs_len]; exact hl) fun i hi => ?_⟩
  rw [rs_get (by omega), if_pos (by omega)]
  have := h (i : Int) (by omega) (by omega)
  unfold st at this
  rw [Int.toNat_natCast] at this
  exact this
theorem marks_ne (hn : 2 ≤ s.length) : marks s ≠ [] := fun e => by
  have no : ∀ k : Int, 0 ≤ k → k < s.length → hasMark s k = false := fun k k0 k1 => by
    cases q : hasMark s k with
    | false => rfl
    | true =>
      have : k ∈ marks s := marks_mem.mpr ⟨k0, k1, q⟩
      rw [e] at this; cases this
  have eq : ∀ k : Nat, k < s.length → st s k = st s 0 := fun k => by
    induction k with
    | zero => intro _; rfl
    | succ k ih =>
      intro hk
      have h1 := no ((k + 1 : Nat) : Int) (by omega) (by omega)
      have h2 : st s ((k + 1 : Nat) : Int) = st s (((k + 1 : Nat) : Int) - 1) := Decidable.byContradiction fun q => by
        rw [(mark_pos (by omega)).mpr q] at h1; cases h1
      rw [h2, show ((k + 1 : Nat) : Int) - 1 = (k : Int) by omega]
      exact ih (by omega)
  have h0 := no 0 (by omega) (by omega)
  have := eq (s.length - 1) (by omega)
  rw [show ((s.length - 1 : Nat) : Int) = (s.length : Int) - 1 by omega] at this
  rw [mark_zero.mpr this.symm] at h0
  cases h0
theorem far_leg (hl : s.length = n) (hn : 2 ≤ n) (hv : ∀ i : Int, 0 ≤ i → i < n → 0 ≤ st s i ∧ st s i < z) (hf : far s ≤ 0) : Leg n z s := by
  have no : ∀ k : Int, 1 ≤ k → k < n → st s k = st s (k - 1) := fun k k0 k1 => Decidable.byContradiction fun q => by
    have h1 := isum_one (f := bord s) (lo := 1) (k := s.length - 1) (i := k) (fun i h0 h1 => bord_nn (by omega)) k0 (by omega)
    unfold far at hf
    unfold bord at h1
    rw [if_neg q] at h1
    have h3 : isum (bord s) 1 (s.length - 1) = isum (fun i => if st s i = st s (i - 1) then 0 else (s.length : Int) - i) 1 (s.length - 1) := rfl
    rw [h3] at hf
    omega
  refine leg_all hl hn (st s 0) fun i i0 i1 => ?_
  have eq : ∀ k : Nat, k < n → st s k = st s 0 := fun k => by
    induction k with
    | zero => intro _; rfl
    | succ k ih =>
      intro hk
      rw [no ((k + 1 : Nat) : Int) (by omega) (by omega), show ((k + 1 : Nat) : Int) - 1 = (k : Int) by omega]
      exact ih (by omega)
  have := eq i.toNat (by omega)
  rw [Int.toNat_of_nonneg i0] at this
  have h0 := hv 0 (by omega) (by omega)
  rw [this, Int.emod_eq_of_lt h0.1 h0.2]
end
/-! ### hand 0 moves less than n times before -/
/-- the value of rank g: what hand 0 gave out (g from 0 on), or what stood there at first -/
def val (x z : Int) (w : Int → Int) (g : Int) : Int := if 0 ≤ g then (x + g) % z else w (-g)
structure Gh (n : Nat) (z x : Int) (w : Int → Int) (s : List Int) (g : Int → Int) (M : Int) : Prop where
  len : s.length = n
  z0 : g 0 = M
  m0 : 0 ≤ M
  mon : ∀ i, 1 ≤ i → i < (n : Int) → g i ≤ g (i - 1)
  vl : ∀ i, 0 ≤ i → i < (n : Int) → st s i = val x z w (g i)
  neg : g (n - 1) < 0 → M ≤ n - 1 + g (n - 1) ∨ (M ≤ n + g (n - 1) ∧ val x z w (g (n - 1)) ≠ val x z w M)
  pos : 0 ≤ g (n - 1) → M ≤ n - 1
section
variable {n : Nat} {s : List Int} {z x h : Int} {w g : Int → Int} {M : Int}
theorem Gh.small (G : Gh n z x w s g M) : M ≤ n - 1 := by
  by_cases q : g (n - 1) < 0
  · rcases G.neg q with a | a <;> omega
  · exact G.pos (by omega)
theorem Gh.le (G : Gh n z x w s g M) : ∀ (k : Nat) (i : Int), 0 ≤ i → i + k < n → g (i + k) ≤ g i
  | 0, i, _, _ => by rw [show i + ((0 : Nat) : Int) = i by omega]; exact Int.le_refl _
  | k + 1, i, h0, h1 => by
    have ih := G.le k i h0 (by omega)
    have := G.mon (i + ((k + 1 : Nat) : Int)) (by omega) (by omega)
    rw [show i + ((k + 1 : Nat) : Int) - 1 = i + (k : Int) by omega] at this
    omega
theorem gh_start (hn : 2 ≤ n) (hl : s.length = n) (hv : ∀ i : Int, 0 ≤ i → i < n → 0 ≤ st s i ∧ st s i < z) : Gh n z (st s 0) (st s) s (fun i => -i) 0 := by
  refine ⟨hl, rfl, Int.le_refl _, fun i _ _ => by omega, fun i i0 i1 => ?_, fun _ => .inl (by omega), fun q => by omega⟩
  unfold val
  by_cases e : i = 0
  · subst e
    have h0 := hv 0 (by omega) (by omega)
    rw [if_pos (by decide)]
    show st s 0 = (st s 0 + 0) % z
    rw [Int.add_zero, Int.emod_eq_of_lt h0.1 h0.2]
  · rw [if_neg (by omega), Int.neg_neg]
theorem Gh.step (hn : 2 ≤ n) (hz : (n : Int) ≤ z) (G : Gh n z x w s g M) (hm : h ∈ marks s) (hh : 0 < h) : ∃ g', Gh n z x w (moved s z h) g' M := by
  have a := marks_mem.mp hm
  have hl := G.len
  have mk := (mark_pos hh).mp a.2.2
  have ne : g h ≠ g (h - 1) := fun e => mk (by rw [G.vl h (by omega) (by omega), G.vl (h - 1) (by omega) (by omega), e])
  have lt : g h < g (h - 1) := by have := G.mon h (by omega) (by omega); omega
  refine ⟨fun i => if i = h then g (h - 1) else g i, by rw [moved_len]; exact hl, by rw [if_neg (by omega)]; exact G.z0, G.m0, fun i i0 i1 => ?_, fun i i0 i1 => ?_, fun q => ?_, fun q => ?_⟩
  · by_cases e : i = h
    · rw [if_pos e, if_neg (by omega), e]; exact Int.le_refl _
    · rw [if_neg e]
      by_cases e2 : i - 1 = h
      · rw [if_pos e2]
        have := G.mon i i0 i1
        rw [e2] at this
        omega
      · rw [if_neg e2]; exact G.mon i i0 i1
  · rw [st_moved a.1 a.2.1 i0]
    by_cases e : i = h
    · rw [if_pos e, if_pos e, new_pos hh]; exact G.vl _ (by omega) (by omega)
    · rw [if_neg e, if_neg e]; exact G.vl i i0 i1
  · by_cases e : (n : Int) - 1 = h
    · rw [if_pos e] at q ⊢
      rcases G.neg (by rw [e]; omega) with b | b
      · rw [e] at b; exact .inl (by omega)
      · rw [e] at b; exact .inl (by omega)
    · rw [if_neg e] at q ⊢
      exact G.neg q
  · exact G.small
theorem Gh.zero (hn : 2 ≤ n) (hz : (n : Int) ≤ z) (G : Gh n z x w s g M) (hm : (0 : Int) ∈ marks s) : Leg n z s ∨ ∃ g', Gh n z x w (moved s z 0) g' (M + 1) := by
  have a := marks_mem.mp hm
  have hl := G.len
  have mk := mark_zero.mp a.2.2
  rw [hl, G.vl 0 (by omega) (by omega), G.vl ((n : Int) - 1) (by omega) (by omega), G.z0] at mk
  have m0 := G.m0
  have ms := G.small
  have le0 := G.le (n - 1) 0 (by omega) (by omega)
  rw [show (0 : Int) + ((n - 1 : Nat) : Int) = (n : Int) - 1 by omega, G.z0] at le0
  by_cases q : g (n - 1) < 0
  · right
    have vM : val x z w M = (x + M) % z := by unfold val; rw [if_pos m0]
    have vM1 : val x z w (M + 1) = (x + M + 1) % z := by unfold val; rw [if_pos (by omega), Int.add_assoc]
    have sn : (x + M + 1) % z ≠ (x + M) % z := by
      have := step_ne (v := x + M + 1) (z := z) (by omega)
      rw [show x + M + 1 - 1 = x + M by omega] at this
      exact this
    have s0 : newNum s z 0 = (x + M + 1) % z := by
      unfold newNum
      rw [if_pos rfl]
      have := G.vl 0 (by omega) (by omega)
      rw [G.z0, vM] at this
      have e : s.getD 0 0 = (x + M) % z := this
      rw [e, Int.emod_add_emod]
    refine ⟨fun i => if i = 0 then M + 1 else g i, by rw [moved_len]; exact hl, by rw [if_pos rfl], by omega, fun i i0 i1 => ?_, fun i i0 i1 => ?_, fun q2 => ?_, fun q2 => ?_⟩
    · rw [if_neg (by omega)]
      have := G.mon i i0 i1
      by_cases e : i - 1 = 0
      · rw [if_pos e]
        rw [e, G.z0] at this
        omega
      · rw [if_neg e]; exact this
    · rw [st_moved (by omega) (by omega) i0]
      by_cases e : i = 0
      · rw [if_pos e, if_pos e, s0, vM1]
      · rw [if_neg e, if_neg e]; exact G.vl i i0 i1
    · rw [if_neg (by omega)] at q2 ⊢
      rcases G.neg q with b | b
      · refine .inr ⟨by omega, ?_⟩
        rw [← mk, vM, vM1]
        exact fun e => sn e.symm
      · exact absurd mk.symm b.2
    · rw [if_neg (by omega)] at q2
      omega
  · left
    have e1 : (x + g (n - 1)) % z = (x + M) % z := by
      unfold val at mk
      rw [if_pos m0, if_pos (by omega)] at mk
      exact mk.symm
    have e2 : g (n - 1) = M := by
      have h1 : ((x + M) - (x + g (n - 1))) % z = 0 := Int.emod_eq_emod_iff_emod_sub_eq_zero.mp e1.symm
      rw [show (x + M) - (x + g (n - 1)) = M - g (n - 1) by omega, Int.emod_eq_of_lt (by omega) (by omega)] at h1
      omega
    refine leg_all hl hn (x + M) fun i i0 i1 => ?_
    have b1 := G.le i.toNat 0 (by omega) (by omega)
    have b2 := G.le (n - 1 - i.toNat) i i0 (by omega)
    rw [show (0 : Int) + (i.toNat : Int) = i by omega, G.z0] at b1
    rw [show i + ((n - 1 - i.toNat : Nat) : Int) = (n : Int) - 1 by omega, e2] at b2
    rw [G.vl i i0 i1, show g i = M by omega]
    unfold val
    rw [if_pos m0]
end
/-- behind t moves -/
def Pha (n : Nat) (z : Int) (t : Int) (s : List Int) : Prop := Leg n z s ∨ ∃ x w g M, Gh n z x w s g M ∧ 2 * t + 2 * far s ≤ (n : Int) * ((n : Int) - 1) + 2 * ((n : Int) * M)
section
variable {n : Nat} {s : List Int} {z t h : Int}
theorem pha_start (hn : 2 ≤ n) (hl : s.length = n) (hv : ∀ i : Int, 0 ≤ i → i < n → 0 ≤ st s i ∧ st s i < z) : Pha n z 0 s :=
  .inr ⟨_, _, _, 0, gh_start hn hl hv, by have := far_top (s := s); rw [hl] at this; omega⟩
theorem Pha.step (hn : 2 ≤ n) (hz : (n : Int) ≤ z) (P : Pha n z t s) (hm : h ∈ marks s) : Pha n z (t + 1) (moved s z h) := by
  rcases P with L | ⟨x, w, g, M, G, hb⟩
  · exact .inl (L.step hn (by omega) hm)
  · have a := marks_mem.mp hm
    have hl := G.len
    by_cases q : h = 0
    · subst q
      rcases G.zero hn hz hm with L | ⟨g', G'⟩
      · exact .inl (L.step hn (by omega) hm)
      · have := far_zero (s := s) (z := z) (by omega)
        refine .inr ⟨x, w, g', M + 1, G', ?_⟩
        rw [Int.mul_add (n : Int) M 1]
        rw [hl] at this
        omega
    · obtain ⟨g', G'⟩ := G.step hn hz hm (by omega)
      have := far_step (s := s) (z := z) (h := h) (by omega) hm
      exact .inr ⟨x, w, g', M, G', by omega⟩
theorem Pha.fin (hn : 2 ≤ n) (hv : ∀ i : Int, 0 ≤ i → i < n → 0 ≤ st s i ∧ st s i < z) (P : Pha n z t s) (ht : 3 * ((n : Int) * ((n : Int) - 1)) ≤ 2 * t) : Leg n z s := by
  rcases P with L | ⟨x, w, g, M, G, hb⟩
  · exact L
  · refine far_leg G.len hn hv ?_
    have ms := G.small
    have h1 : (n : Int) * M ≤ (n : Int) * ((n : Int) - 1) := Int.mul_le_mul_of_nonneg_left ms (by omega)
    omega
end
/-! ### the pick -/
def pickR (ns s : List Int) (z t : Int) : Int :=
  if cell ns 2 % 5 = 0 then (marks s).getD 0 0 else if cell ns 2 % 5 = 1 then (marks s).getD ((marks s).length - 1) 0
  else if cell ns 2 % 5 = 2 then maxK (fun h => (((marks (moved s z h)).length : Int), h)) (marks s)
  else (marks s).getD (mix (cell ns (3 + t % 60) + t / 60) 9931 (marks s).length).toNat 0
theorem pickR_mem {ns s : List Int} {z t : Int} (h : marks s ≠ []) : pickR ns s z t ∈ marks s := by
  have hp := List.length_pos_iff.mpr h
  unfold pickR
  split
  · exact getD_mem hp
  · split
    · exact getD_mem (by omega)
    · split
      · exact maxK_mem h
      · have h1 := mix_lo (c := cell ns (3 + t % 60) + t / 60) (p := 9931) (m := ((marks s).length : Int)) (by omega)
        have h2 := mix_hi (c := cell ns (3 + t % 60) + t / 60) (p := 9931) (m := ((marks s).length : Int)) (by omega)
        exact getD_mem (by omega)
def F__law_pick : List PyData → PyData → Prop := fun ds d => ∃ ns s z t, ds = [lI ns, tI s, .int z, .int t] ∧ s.length ≤ 8 ∧ 0 < z ∧ marks s ≠ [] ∧ 0 ≤ t ∧ d = .int (pickR ns s z t)
theorem L__law_pick : ∀ ds d, F__law_pick ds d → ds.length = 4 := fun _ _ ⟨_, _, _, _, e, _⟩ => by rw [e]; rfl
section
variable {K : PySem.W.Frag} {r : Rho} {ta tb tc td : TE} {X : XK} {ns s : List Int} {z t : Int}
theorem cv_pick (h1 : EvD K ta r (lI ns)) (h2 : EvD K tb r (tI s)) (h3 : EvD K tc r (.int z)) (h4 : EvD K td r (.int t)) (hl : s.length ≤ 8) (hz : 0 < z) (hc : marks s ≠ []) (ht : 0 ≤ t) : EvD K (tCall (spR K F__law_pick) [] X (tCons ta (tCons tb (tCons tc (tCons td tNil))))) r (.int (pickR ns s z t)) := ev_call (ea_cons h1 (ea_cons h2 (ea_cons h3 (ea_cons h4 ea_nil)))) ⟨ns, s, z, t, rfl, hl, hz, hc, ht, rfl⟩
end
theorem marks_small {s : List Int} : (marks s).length ≤ s.length := by
  have := List.length_filter_le (hasMark s) (irange 0 s.length)
  rw [irange_len] at this
  exact this
def F_law : List PyData → PyData → Prop := fun ds d => ∃ ns, ds = [lI ns] ∧ ns.length ≤ 63 ∧ (∀ z ∈ ns, Builtin.Int.intBits z ≤ 1048576) ∧ d = .bool true
theorem L_law : ∀ ds d, F_law ds d → ds.length = 1 := fun _ _ ⟨_, e, _⟩ => by rw [e]; rfl
end Od

namespace Od
open PySem PySem.Spec PyProof.Rows L2
def top (i : Nat) : Stmt := PySem.Challenge.pw_oddreel_k03_whole_one_mark_at_last.main.body.getD i (.Pass ⟨0, 0, 0, 0⟩)
theorem ql_eq : ("_law_pick" : Str) ++ ".<locals>." ++ "<lambda>" = QL := by decide +kernel
section
variable {P : Program} {w : World} {K : PySem.W.Frag} {mg : Str → Option Value} {base : Heap} {C R : Addr}
abbrev s__law_mix : Stmt := top 9
theorem sc__law_mix : FnScope ["_law_cell_here", "_law_prime", "_law_many"] ["_law_cell_here", "_law_prime", "_law_many"] (defScope s__law_mix) := ⟨rfl, rfl, rfl, by decide +kernel, rfl, by decide +kernel, by decide +kernel⟩
theorem ok__law_mix {f : Addr} {fd : FuncData} (D : DefAt K mg "_law_mix" s__law_mix f fd) (T : Bt mg) : CalOk P w K mg base CX0 1 "_law_mix" ["_law_cell_here", "_law_prime", "_law_many"] (spR K F__law_mix) := by
  refine ⟨_, _, (D.F.ok sc__law_mix (fun vs H Q E h => spR_len h L__law_mix) (fun cdv A outer s H vs Q E hr h => ?_) : FnOk P w K mg base CX0 (0 + 1) f fd ["_law_cell_here", "_law_prime", "_law_many"] _), D.m, D.F.kp, D.F.binds (ps := ["_law_cell_here", "_law_prime", "_law_many"]) fun _ _ _ _ _ _ us hl => match us, hl with | [_, _, _], _ => rfl⟩
  refine ⟨_, (pss_one (ps_ret (pe_op op_mod (pe_op op_mod (pe_op op_mulB (pv 0) pe_int) (pv 1)) (pv 2)))), ?_⟩
  refine spR_body h (fun ds d H0 hF => ?_)
  obtain ⟨c, p, m, rfl, hp, hm, rfl⟩ := hF
  show WP K H0 _ [.im (.int c), .im (.int p), .im (.int m)] _
  exact wp_ret (ev_mod (ev_mod (ev_mul (ev_im rfl) ev_int (mulR (by decide) (by decide))) (ev_im rfl) hp) (ev_im rfl) hm) rfl

abbrev s__law_cell : Stmt := top 8
theorem sc__law_cell : FnScope ["_law_script", "_law_k"] ["_law_script", "_law_k"] (defScope s__law_cell) := ⟨rfl, rfl, rfl, by decide +kernel, rfl, by decide +kernel, by decide +kernel⟩
theorem ok__law_cell {f : Addr} {fd : FuncData} (D : DefAt K mg "_law_cell" s__law_cell f fd) (T : Bt mg) : CalOk P w K mg base CX0 1 "_law_cell" ["_law_script", "_law_k"] (spR K F__law_cell) := by
  refine ⟨_, _, (D.F.ok sc__law_cell (fun vs H Q E h => spR_len h L__law_cell) (fun cdv A outer s H vs Q E hr h => ?_) : FnOk P w K mg base CX0 (0 + 1) f fd ["_law_script", "_law_k"] _), D.m, D.F.kp, D.F.binds (ps := ["_law_script", "_law_k"]) fun _ _ _ _ _ _ us hl => match us, hl with | [_, _], _ => rfl⟩
  refine ⟨_, (pss_cons (ps_if (pt_cmpR op_lt (pv 1) (pe_callB (call_lenK (K := K) rfl) (by rfl) T.len_ boot_len (pa_cons (pv 0) pa_nil)) (nomark _))
        (pss_one (ps_ret (pe_ix (ix_listK (K := K) rfl) (pv 0) (pv 1) (fun _ _ => rfl))))
        pss_nil)
      (pss_one (ps_ret pe_int))), ?_⟩
  refine spR_body h (fun ds d H0 hF => ?_)
  obtain ⟨ns, k, rfl, h0, rfl⟩ := hF
  show WP K H0 _ [.im (lI ns), .im (.int k)] _
  refine wp_seq (wp_if (et_test (ev_lt (ev_im rfl) (ev_len (EvL.toQ (EvD.toL (ev_im rfl)))))) (fun hb => ?_) (fun hb => wp_next ?_))
  · have hk := of_decide_eq_true hb
    rw [List.length_map] at hk
    exact wp_ret (ev_ixL (EvD.toL (ev_im rfl)) (ev_im rfl) (at_nn h0 hk)) rfl
  · have hk := of_decide_eq_false hb
    rw [List.length_map] at hk
    refine wp_ret ev_int ?_
    show PyData.int 0 = PyData.int (cell ns k)
    unfold cell
    rw [List.getD_eq_getElem?_getD, List.getElem?_eq_none (by omega)]; rfl

abbrev s__law_size : Stmt := top 10
theorem sc__law_size : FnScope ["_law_script", "_law_many"] ["_law_script"] (defScope s__law_size) := ⟨rfl, rfl, rfl, by decide +kernel, rfl, by decide +kernel, by decide +kernel⟩
theorem ok__law_size {f : Addr} {fd : FuncData} (D : DefAt K mg "_law_size" s__law_size f fd) (T : Bt mg) (c__law_mix : CalOk P w K mg base CX0 1 "_law_mix" ["_law_cell_here", "_law_prime", "_law_many"] (spR K F__law_mix)) (c__law_cell : CalOk P w K mg base CX0 1 "_law_cell" ["_law_script", "_law_k"] (spR K F__law_cell)) : CalOk P w K mg base CX0 2 "_law_size" ["_law_script"] (spR K F__law_size) := by
  refine ⟨_, _, (D.F.ok sc__law_size (fun vs H Q E h => spR_len h L__law_size) (fun cdv A outer s H vs Q E hr h => ?_) : FnOk P w K mg base CX0 (1 + 1) f fd ["_law_script"] _), D.m, D.F.kp, D.F.binds (ps := ["_law_script"]) fun _ _ _ _ _ _ us hl => match us, hl with | [_], _ => rfl⟩
  refine ⟨_, (pss_cons (ps_set (i := 1) sc__law_size.nd rfl (by first | exact Or.inl rfl | exact Or.inr rfl) (pe_op op_add pe_int (pe_callC c__law_mix (hr.mono (by decide)) rfl (pa_cons (pe_callC c__law_cell (hr.mono (by decide)) rfl (pa_cons (pv 0) (pa_cons pe_int pa_nil))) (pa_cons pe_int (pa_cons pe_int pa_nil))))))
      (pss_one (ps_ret (pe_op op_add (pv 1) (pe_callC c__law_mix (hr.mono (by decide)) rfl (pa_cons (pe_callC c__law_cell (hr.mono (by decide)) rfl (pa_cons (pv 0) (pa_cons pe_int pa_nil))) (pa_cons pe_int (pa_cons (pe_op op_sub pe_int (pv 1)) pa_nil)))))))), ?_⟩
  refine spR_body h (fun ds d H0 hF => ?_)
  obtain ⟨ns, rfl, rfl⟩ := hF
  have hm := many_b ns
  show WP K H0 _ [.im (lI ns), .no] _
  refine wp_seq (wp_set (ev_add ev_int (cv_mix (cv_cell (ev_im rfl) ev_int (by decide)) ev_int ev_int (by decide) (by decide))) ?_)
  exact wp_ret (ev_add (ev_im rfl) (cv_mix (cv_cell (ev_im rfl) ev_int (by decide)) ev_int (ev_sub ev_int (ev_im rfl)) (by decide) (show 0 < 21 - many ns by omega))) rfl

abbrev s__law_state : Stmt := top 11
theorem sc__law_state : FnScope ["_law_script", "_law_many", "_law_k"] ["_law_script"] (defScope s__law_state) := ⟨rfl, rfl, rfl, by decide +kernel, rfl, by decide +kernel, by decide +kernel⟩
theorem ok__law_state {f : Addr} {fd : FuncData} (D : DefAt K mg "_law_state" s__law_state f fd) (T : Bt mg) (c__law_mix : CalOk P w K mg base CX0 1 "_law_mix" ["_law_cell_here", "_law_prime", "_law_many"] (spR K F__law_mix)) (c__law_cell : CalOk P w K mg base CX0 1 "_law_cell" ["_law_script", "_law_k"] (spR K F__law_cell)) (c__law_size : CalOk P w K mg base CX0 2 "_law_size" ["_law_script"] (spR K F__law_size)) : CalOk P w K mg base CX0 3 "_law_state" ["_law_script"] (spR K F__law_state) := by
  refine ⟨_, _, (D.F.ok sc__law_state (fun vs H Q E h => spR_len h L__law_state) (fun cdv A outer s H vs Q E hr h => ?_) : FnOk P w K mg base CX0 (2 + 1) f fd ["_law_script"] _), D.m, D.F.kp, D.F.binds (ps := ["_law_script"]) fun _ _ _ _ _ _ us hl => match us, hl with | [_], _ => rfl⟩
  refine ⟨_, (pss_cons (ps_set (i := 1) sc__law_state.nd rfl (by first | exact Or.inl rfl | exact Or.inr rfl) (pe_op op_add pe_int (pe_callC c__law_mix (hr.mono (by decide)) rfl (pa_cons (pe_callC c__law_cell (hr.mono (by decide)) rfl (pa_cons (pv 0) (pa_cons pe_int pa_nil))) (pa_cons pe_int (pa_cons pe_int pa_nil))))))
      (pss_one (ps_ret (pe_callTy (call_tupleK (K := K) rfl) (by rfl) T.tuple_ boot_tuple (pa_cons (pe_lc (own := [("_law_k", 2)]) (g := (gName 2)) (tt := tYes) rfl sc__law_state.nd (pi_range1 (by rfl) T.range_ (pa_cons (pv 1) pa_nil)) (blkOk_by (own := [("_law_k", 2)]) (N := ["_law_script", "_law_many", "_law_k"]) (sc := defScope s__law_state) (by decide +kernel)) (fun _ _ _ _ _ => (pg_name (i := 2) sc__law_state.nd rfl (by first | exact Or.inl rfl | exact Or.inr rfl))) (fun _ _ _ _ _ => pts_nil) (fun _ _ _ _ _ => (pe_callC c__law_mix (hr.mono (by decide)) rfl (pa_cons (pe_op op_add (pe_callC c__law_cell (hr.mono (by decide)) rfl (pa_cons (pv 0) (pa_cons pe_int pa_nil))) (pe_op op_mulB pe_int (pv 2))) (pa_cons pe_int (pa_cons (pe_callC c__law_size (hr.mono (by decide)) rfl (pa_cons (pv 0) pa_nil)) pa_nil)))))) pa_nil))))), ?_⟩
  refine spR_body h (fun ds d H0 hF => ?_)
  obtain ⟨ns, rfl, rfl⟩ := hF
  have hm := many_b ns
  have hz := size_b ns
  show WP K H0 _ [.im (lI ns), .no, .no] _
  refine wp_seq (wp_set (ev_add ev_int (cv_mix (cv_cell (ev_im rfl) ev_int (by decide)) ev_int ev_int (by decide) (by decide))) ?_)
  refine wp_ret (ev_tupleL (EvM.toL (EvN.toM (ev_lcM (ei_rng1 (j := many ns) (ea_cons (ev_im rfl) ea_nil) (by omega) (by omega)) (irange 0 (many ns).toNat) PyData.int (fun k => .int (mix (cell ns 1 + 31 * k) 9949 (size ns))) rfl ?_ (fun k hk => ⟨_, gc_name (by decide), ?_⟩))))) ?_
  · rw [irange_len]; exact szI (by omega)
  · exact cv_mix (ev_add (cv_cell (ev_im rfl) ev_int (by decide)) (ev_mul ev_int (ev_im rfl) (mulL (by decide) (by decide)))) ev_int (cv_size (ev_im rfl)) (by decide) (by omega)
  · show PyData.tuple _ = PyData.tuple _
    unfold state
    rw [List.map_map]; rfl

abbrev s_has_mark : Stmt := top 4
theorem sc_has_mark : FnScope ["state", "hand"] ["state", "hand"] (defScope s_has_mark) := ⟨rfl, rfl, rfl, by decide +kernel, rfl, by decide +kernel, by decide +kernel⟩
theorem ok_has_mark {f : Addr} {fd : FuncData} (D : DefAt K mg "has_mark" s_has_mark f fd) (T : Bt mg) : CalOk P w K mg base CX0 1 "has_mark" ["state", "hand"] (spR K F_has_mark) := by
  refine ⟨_, _, (D.F.ok sc_has_mark (fun vs H Q E h => spR_len h L_has_mark) (fun cdv A outer s H vs Q E hr h => ?_) : FnOk P w K mg base CX0 (0 + 1) f fd ["state", "hand"] _), D.m, D.F.kp, D.F.binds (ps := ["state", "hand"]) fun _ _ _ _ _ _ us hl => match us, hl with | [_, _], _ => rfl⟩
  refine ⟨_, (pss_cons (ps_if (pt_cmpR (op_eqK (K := K) rfl hr.units) (pv 1) pe_int (nomark _))
        (pss_one (ps_ret (pe_cmpR (op_eqK (K := K) rfl hr.units) (pe_ix (ix_tupK (K := K) rfl) (pv 0) pe_int (fun _ _ => rfl)) (pe_ix (ix_tupK (K := K) rfl) (pv 0) (pe_un un_neg pe_int) (fun _ _ => rfl)) (nomark _))))
        pss_nil)
      (pss_one (ps_ret (pe_cmpR (op_neK (K := K) rfl hr.units) (pe_ix (ix_tupK (K := K) rfl) (pv 0) (pv 1) (fun _ _ => rfl)) (pe_ix (ix_tupK (K := K) rfl) (pv 0) (pe_op op_sub (pv 1) pe_int) (fun _ _ => rfl)) (nomark _))))), ?_⟩
  refine spR_body h (fun ds d H0 hF => ?_)
  obtain ⟨s, h, rfl, h0, h1, rfl⟩ := hF
  show WP K H0 _ [.im (tI s), .im (.int h)] _
  refine wp_seq (wp_if (et_test (ev_eqI (ev_im rfl) ev_int)) (fun hb => ?_) (fun hb => wp_next ?_))
  · have e := of_decide_eq_true hb
    subst e
    refine wp_ret (ev_eqI (ev_ixT (ev_im rfl) ev_int (at_nn (by decide) (by omega))) (ev_ixT (ev_im rfl) (ev_neg ev_int) (at_last (by omega)))) ?_
    show PyData.bool _ = PyData.bool _
    unfold hasMark
    rw [if_pos rfl]; rfl
  · have e := of_decide_eq_false hb
    refine wp_ret (ev_neI (ev_ixT (ev_im rfl) (ev_im rfl) (at_nn h0 h1)) (ev_ixT (ev_im rfl) (ev_sub (ev_im rfl) ev_int) (at_nn (by omega) (by omega)))) ?_
    show PyData.bool _ = PyData.bool _
    unfold hasMark
    rw [if_neg e, show (h - 1).toNat = h.toNat - 1 by omega]

abbrev s_marked : Stmt := top 5
theorem sc_marked : FnScope ["state", "hand"] ["state"] (defScope s_marked) := ⟨rfl, rfl, rfl, by decide +kernel, rfl, by decide +kernel, by decide +kernel⟩
theorem ok_marked {f : Addr} {fd : FuncData} (D : DefAt K mg "marked" s_marked f fd) (T : Bt mg) (c_has_mark : CalOk P w K mg base CX0 1 "has_mark" ["state", "hand"] (spR K F_has_mark)) : CalOk P w K mg base CX0 2 "marked" ["state"] (spR K F_marked) := by
  refine ⟨_, _, (D.F.ok sc_marked (fun vs H Q E h => spR_len h L_marked) (fun cdv A outer s H vs Q E hr h => ?_) : FnOk P w K mg base CX0 (1 + 1) f fd ["state"] _), D.m, D.F.kp, D.F.binds (ps := ["state"]) fun _ _ _ _ _ _ us hl => match us, hl with | [_], _ => rfl⟩
  refine ⟨_, (pss_one (ps_ret (pe_callTy (call_tupleK (K := K) rfl) (by rfl) T.tuple_ boot_tuple (pa_cons (pe_lc (own := [("hand", 1)]) (g := (gName 1)) rfl sc_marked.nd (pi_range1 (by rfl) T.range_ (pa_cons (pe_callB (call_lenK (K := K) rfl) (by rfl) T.len_ boot_len (pa_cons (pv 0) pa_nil)) pa_nil)) (blkOk_by (own := [("hand", 1)]) (N := ["state", "hand"]) (sc := defScope s_marked) (by decide +kernel)) (fun _ _ _ _ _ => (pg_name (i := 1) sc_marked.nd rfl (by first | exact Or.inl rfl | exact Or.inr rfl))) (fun _ _ _ _ _ => (pts_one (pt_val (pe_callC c_has_mark (hr.mono (by decide)) rfl (pa_cons (pv 0) (pa_cons (pv 1) pa_nil)))))) (fun _ _ _ _ _ => (pv 1))) pa_nil)))), ?_⟩
  refine spR_body h (fun ds d H0 hF => ?_)
  obtain ⟨s, rfl, hl, rfl⟩ := hF
  show WP K H0 _ [.im (tI s), .no] _
  refine wp_ret (ev_tupleL (EvM.toL (EvN.toM (ev_lcF (ei_rng1 (j := (s.length : Int)) (ea_cons (ev_is (ev_len (EvD.toQ (ev_im rfl))) (by rw [List.length_map])) ea_nil) (by omega) (by omega)) (irange 0 s.length) PyData.int (hasMark s) PyData.int (by rw [Int.toNat_natCast]) ?_ (fun k hk => ⟨_, gc_name (by decide), ?_, fun _ => ?_⟩))))) ?_
  · rw [irange_len]; exact szI (by omega)
  · have hk' := irange_mem.mp hk
    exact et_B (cv_has_mark (ev_im rfl) (ev_im rfl) (by omega) (by omega))
  · exact ev_im rfl
  · rfl

abbrev s_moved : Stmt := top 6
theorem sc_moved : FnScope ["state", "size", "hand", "number"] ["state", "size", "hand"] (defScope s_moved) := ⟨rfl, rfl, rfl, by decide +kernel, rfl, by decide +kernel, by decide +kernel⟩
theorem ok_moved {f : Addr} {fd : FuncData} (D : DefAt K mg "moved" s_moved f fd) (T : Bt mg) (Z : Ze K mg C) (c_marked : CalOk P w K mg base CX0 2 "marked" ["state"] (spR K F_marked)) : CalOk P w K mg base (L2.CX P w) 3 "moved" ["state", "size", "hand"] (spX K C F_moved R_moved) := by
  refine ⟨_, _, (D.F.okX sc_moved (fun vs H Q E h => spX_len h L_moved LR_moved) (fun cdv A outer s H vs Q E hr h => ?_) : FnOk P w K mg base (L2.CX P w) (2 + 1) f fd ["state", "size", "hand"] _), D.m, D.F.kp, D.F.binds (ps := ["state", "size", "hand"]) fun _ _ _ _ _ _ us hl => match us, hl with | [_, _, _], _ => rfl⟩
  refine ⟨_, (pss_cons (ps_if (pt_cmpR (op_ninK (K := K) rfl) (pv 2) (pe_callC c_marked (hr.mono (by decide)) rfl (pa_cons (pv 0) pa_nil)) (by rfl))
        (pss_one (ps_raise rfl (takes_of rfl rfl rfl rfl) (pmk_own PySem.F.excBase_ValueError Z.xC Z.gC Z.kC (raises_own Z.bC Z.tC) (by exact rfl))))
        pss_nil)
      (pss_cons (ps_set (i := 3) sc_moved.nd rfl (by first | exact Or.inl rfl | exact Or.inr rfl) (pe_ix (ix_tupK (K := K) rfl) (pv 0) (pe_op op_sub (pv 2) pe_int) (fun _ _ => rfl)))
      (pss_cons (ps_if (pt_cmpR (op_eqK (K := K) rfl hr.units) (pv 2) pe_int (nomark _))
        (pss_one (ps_set (i := 3) sc_moved.nd rfl (by first | exact Or.inl rfl | exact Or.inr rfl) (pe_op op_mod (pe_op op_add (pe_ix (ix_tupK (K := K) rfl) (pv 0) pe_int (fun _ _ => rfl)) pe_int) (pv 1))))
        pss_nil)
      (pss_one (ps_ret (pe_op (op_catK (K := K) rfl) (pe_op (op_catK (K := K) rfl) (pe_slice (sl_tupK (K := K) rfl) (pv 0) po_none (po_some (pv 2))) (pe_tup (pa_cons (pv 3) pa_nil))) (pe_slice (sl_tupK (K := K) rfl) (pv 0) (po_some (pe_op op_add (pv 2) pe_int)) po_none))))))), ?_⟩
  refine spX_body h (fun ds d hF => ?_) (fun ds hR hE => ?_)
  · obtain ⟨s, z, h, rfl, hm, hz, hl, rfl⟩ := hF
    have hm' := marks_mem.mp hm
    show WP K H _ [.im (tI s), .im (.int z), .im (.int h), .no] _
    refine wp_seq (wp_if (et_test (ev_nin (ev_im rfl) (EvD.toQ (cv_marked (ev_im rfl) hl)))) (fun hb => ?_) (fun hb => wp_next ?_))
    · exfalso
      rw [decide_eq_true hm] at hb
      exact absurd hb (by decide)
    · have fin : ∀ x : Int, WP K H (tRet (tOp (rCatA K) (tOp (rCatA K) (tSl (rSlA K) (tVar 0) tNoPart (tPart (tVar 2))) (tTup (tCons (tVar 3) tNil))) (tSl (rSlA K) (tVar 0) (tPart (tOp (rI0 fun i j => V.int (i + j)) (tVar 2) (tC (V.int 1)))) tNoPart))) [.im (tI s), .im (.int z), .im (.int h), .im (.int x)] { nx := fun _ => False, rt := fun d' => d' = tI (s.set h.toNat x) } := fun x => by
        refine wp_ret (ev_catT (ev_catT (ev_slT (ev_im rfl) eo_none (eo_some (ev_im rfl))) (ev_tup (ea_cons (ev_im rfl) ea_nil) (szI (by show (1 : Nat) ≤ 100000; decide))) ?_) (ev_slT (ev_im rfl) (eo_some (ev_add (ev_im rfl) ev_int)) eo_none) ?_) ?_
        · exact szI (by have := cutD_len (s.map PyData.int) none (some h); rw [List.length_map] at this; show _ + 1 ≤ _; omega)
        · exact szI (by have h1 := cutD_len (s.map PyData.int) none (some h); have h2 := cutD_len (s.map PyData.int) (some (h + 1)) none; rw [List.length_map] at h1 h2; rw [List.length_append]; show _ + 1 + _ ≤ _; omega)
        · show PyData.tuple _ = PyData.tuple _
          have e : h = ((h.toNat : Nat) : Int) := by omega
          have q := put_eq (xs := s.map PyData.int) (k := h.toNat) (d := .int x) (by rw [List.length_map]; omega)
          rw [← e] at q
          rw [q, List.map_set]
      refine wp_seq ?_
      by_cases e : h = 0
      · subst e
        have hx : ∃ y, atI (s.map PyData.int) (0 - 1) = some (.int y) := ⟨_, at_last (by omega)⟩
        obtain ⟨y, hy⟩ := hx
        refine wp_set (ev_ixT (ev_im rfl) (ev_sub (ev_im rfl) ev_int) hy) ?_
        refine wp_seq (wp_if (et_test (ev_eqI (ev_im rfl) ev_int)) (fun _ => ?_) (fun hb => absurd hb (by decide)))
        refine wp_set (ev_mod (ev_add (ev_ixT (ev_im rfl) ev_int (at_nn (by decide) (by omega))) ev_int) (ev_im rfl) hz) ?_
        exact (fin _).imp (fun _ z => z) (fun d e => e.trans (by unfold moved newNum; rw [if_pos rfl]; rfl)) (fun _ z => z) (fun _ z => z)
      · refine wp_set (ev_ixT (ev_im rfl) (ev_sub (ev_im rfl) ev_int) (at_nn (by omega) (by omega))) ?_
        refine wp_seq (wp_if (et_test (ev_eqI (ev_im rfl) ev_int)) (fun hb => absurd (of_decide_eq_true hb) e) (fun _ => wp_next ?_))
        exact (fin _).imp (fun _ z => z) (fun d e2 => e2.trans (by unfold moved newNum; rw [if_neg e, show (h - 1).toNat = h.toNat - 1 by omega])) (fun _ z => z) (fun _ z => z)
  · obtain ⟨s, z, h, rfl, hm, hl⟩ := hR
    show WP K H _ [.im (tI s), .im (.int z), .im (.int h), .no] _
    refine wp_seq (wp_if (et_test (ev_nin (ev_im rfl) (EvD.toQ (cv_marked (ev_im rfl) hl)))) (fun hb => ?_) (fun hb => ?_))
    · exact wp_raise hE
    · rw [decide_eq_false hm] at hb
      exact absurd hb (by decide)

abbrev s__law_pick : Stmt := top 12
theorem sc__law_pick : FnScope ["_law_script", "_law_state_here", "_law_size_here", "_law_turn", "_law_marks", "_law_way"] ["_law_script", "_law_state_here", "_law_size_here", "_law_turn"] (defScope s__law_pick) := ⟨rfl, rfl, rfl, by decide +kernel, rfl, by decide +kernel, by decide +kernel⟩
theorem ok__law_pick {f : Addr} {fd : FuncData} (D : DefAt K mg "_law_pick" s__law_pick f fd) {cA : Addr} (hcA : fd.code = .ref cA) (TB : LamX.TabB base mg cA PL) (T : Bt mg) (c_marked : CalOk P w K mg base CX0 2 "marked" ["state"] (spR K F_marked)) (c__law_cell : CalOk P w K mg base CX0 1 "_law_cell" ["_law_script", "_law_k"] (spR K F__law_cell)) (c__law_mix : CalOk P w K mg base CX0 1 "_law_mix" ["_law_cell_here", "_law_prime", "_law_many"] (spR K F__law_mix)) (c_moved : CalOk P w K mg base (L2.CX P w) 3 "moved" ["state", "size", "hand"] (spX K C F_moved R_moved)) : CalOk P w K mg base CX0 6 "_law_pick" ["_law_script", "_law_state_here", "_law_size_here", "_law_turn"] (spR K F__law_pick) := by
  refine ⟨_, _, (Fun_okC D.F hcA sc__law_pick (fun vs H Q E h => spR_len h L__law_pick) (fun A outer s H vs Q E hr h => ?_) : FnOk P w K mg base CX0 (5 + 1) f fd ["_law_script", "_law_state_here", "_law_size_here", "_law_turn"] _), D.m, D.F.kp, D.F.binds (ps := ["_law_script", "_law_state_here", "_law_size_here", "_law_turn"]) fun _ _ _ _ _ _ us hl => match us, hl with | [_, _, _, _], _ => rfl⟩
  refine ⟨_, (pss_cons (ps_set (i := 4) sc__law_pick.nd rfl (by first | exact Or.inl rfl | exact Or.inr rfl) (pe_callC c_marked (hr.mono (by decide)) rfl (pa_cons (pv 1) pa_nil)))
      (pss_cons (ps_set (i := 5) sc__law_pick.nd rfl (by first | exact Or.inl rfl | exact Or.inr rfl) (pe_op op_mod (pe_callC c__law_cell (hr.mono (by decide)) rfl (pa_cons (pv 0) (pa_cons pe_int pa_nil))) pe_int))
      (pss_cons (ps_if (pt_cmpR (op_eqK (K := K) rfl hr.units) (pv 5) pe_int (nomark _))
        (pss_one (ps_ret (pe_ix (ix_tupK (K := K) rfl) (pv 4) pe_int (fun _ _ => rfl))))
        pss_nil)
      (pss_cons (ps_if (pt_cmpR (op_eqK (K := K) rfl hr.units) (pv 5) pe_int (nomark _))
        (pss_one (ps_ret (pe_ix (ix_tupK (K := K) rfl) (pv 4) (pe_un un_neg pe_int) (fun _ _ => rfl))))
        pss_nil)
      (pss_cons (ps_if (pt_cmpR (op_eqK (K := K) rfl hr.units) (pv 5) pe_int (nomark _))
        (pss_one (ps_ret (pe_maxL (K := K) (k := 3) (q := QL) (x := "_law_hand") rfl (by rfl) T.max_ (pa_cons (pv 4) pa_nil) TB rfl ql_eq rfl (lam1_by (sc := defScope s__law_pick) (by decide +kernel)) (show ("_law_hand" : Str) ∉ (["_law_script", "_law_state_here", "_law_size_here", "_law_turn", "_law_marks", "_law_way"] : List Str) from by decide +kernel) (hr.mono (by decide)) (fun A outer s H f c' hr => (pe_tup (pa_cons (pe_callB (call_lenK (K := K) rfl) (by rfl) T.len_ boot_len (pa_cons (pe_callC c_marked (hr.mono (by decide)) rfl (pa_cons (pe_callL c_moved (hr.mono (by decide)) rfl (pa_cons (pv 1) (pa_cons (pv 2) (pa_cons (pv 6) pa_nil)))) pa_nil)) pa_nil)) (pa_cons (pv 6) pa_nil)))))))
        pss_nil)
      (pss_one (ps_ret (pe_ix (ix_tupK (K := K) rfl) (pv 4) (pe_callC c__law_mix (hr.mono (by decide)) rfl (pa_cons (pe_op op_add (pe_callC c__law_cell (hr.mono (by decide)) rfl (pa_cons (pv 0) (pa_cons (pe_op op_add pe_int (pe_op op_mod (pv 3) pe_int)) pa_nil))) (pe_op op_fdiv (pv 3) pe_int)) (pa_cons pe_int (pa_cons (pe_callB (call_lenK (K := K) rfl) (by rfl) T.len_ boot_len (pa_cons (pv 4) pa_nil)) pa_nil)))) (fun _ _ => rfl))))))))), ?_⟩
  refine spR_body h (fun ds d H0 hF => ?_)
  obtain ⟨ns, s, z, t, rfl, hl, hz, hc, ht, rfl⟩ := hF
  have hp := List.length_pos_iff.mpr hc
  have hsm := marks_small (s := s)
  show WP K H0 _ [.im (lI ns), .im (tI s), .im (.int z), .im (.int t), .no, .no] _
  refine wp_seq (wp_set (cv_marked (ev_im rfl) (by omega)) ?_)
  refine wp_seq (wp_set (ev_mod (cv_cell (ev_im rfl) ev_int (by decide)) ev_int (by decide)) ?_)
  refine wp_seq (wp_if (et_test (ev_eqI (ev_im rfl) ev_int)) (fun hb => ?_) (fun hb => wp_next ?_))
  · refine wp_ret (ev_ixT (ev_im rfl) ev_int (at_nn (by decide) (by omega))) ?_
    unfold pickR
    rw [if_pos (of_decide_eq_true hb)]; rfl
  refine wp_seq (wp_if (et_test (ev_eqI (ev_im rfl) ev_int)) (fun hb2 => ?_) (fun hb2 => wp_next ?_))
  · refine wp_ret (ev_ixT (ev_im rfl) (ev_neg ev_int) (at_last (by omega))) ?_
    unfold pickR
    rw [if_neg (of_decide_eq_false hb), if_pos (of_decide_eq_true hb2)]
  refine wp_seq (wp_if (et_test (ev_eqI (ev_im rfl) ev_int)) (fun hb3 => ?_) (fun hb3 => wp_next ?_))
  · refine wp_ret (ev_maxL (fun h => (((marks (moved s z h)).length : Int), h)) (ea_cons (ev_im rfl) ea_nil) hc (fun h hh => ?_)) ?_
    · exact ev_tup (ea_cons (ev_is (ev_len (EvD.toQ (cv_marked (cv_moved (ev_im rfl) (ev_im rfl) (ev_im rfl) hh hz (by omega)) (by rw [moved_len]; omega)))) (by rw [List.length_map])) (ea_cons (ev_im rfl) ea_nil)) (szI (by show (2 : Nat) ≤ 100000; decide))
    · unfold pickR
      rw [if_neg (of_decide_eq_false hb), if_neg (of_decide_eq_false hb2), if_pos (of_decide_eq_true hb3)]
  have h1 := mix_lo (c := cell ns (3 + t % 60) + t / 60) (p := 9931) (m := ((marks s).length : Int)) (by omega)
  have h2 := mix_hi (c := cell ns (3 + t % 60) + t / 60) (p := 9931) (m := ((marks s).length : Int)) (by omega)
  refine wp_ret (ev_ixT (ev_im rfl) (cv_mix (ev_add (cv_cell (ev_im rfl) (ev_add ev_int (ev_mod (ev_im rfl) ev_int (by decide))) (by omega)) (ev_div (ev_im rfl) ev_int ⟨by decide, by decide⟩)) ev_int (ev_is (ev_len (EvD.toQ (ev_im rfl))) (by rw [List.length_map])) (by decide) (by omega)) (at_nn h1 (by omega))) ?_
  unfold pickR
  rw [if_neg (of_decide_eq_false hb), if_neg (of_decide_eq_false hb2), if_neg (of_decide_eq_false hb3)]
end
section
variable {P : Program} {w : World} {K : PySem.W.Frag} {mg : Str → Option Value} {base : Heap} {C R : Addr}
abbrev s_law : Stmt := top 13
theorem sc_law : FnScope ["_law_script", "_law_size_here", "_law_state_here", "_law_many", "_law_turn", "_law_marks"] ["_law_script"] (defScope s_law) := ⟨rfl, rfl, rfl, by decide +kernel, rfl, by decide +kernel, by decide +kernel⟩
theorem fn_law {f : Addr} {fd : FuncData} (D : DefAt K mg "law" s_law f fd) (T : Bt mg) (c__law_size : CalOk P w K mg base CX0 2 "_law_size" ["_law_script"] (spR K F__law_size)) (c__law_state : CalOk P w K mg base CX0 3 "_law_state" ["_law_script"] (spR K F__law_state)) (c_marked : CalOk P w K mg base CX0 2 "marked" ["state"] (spR K F_marked)) (c_moved : CalOk P w K mg base (L2.CX P w) 3 "moved" ["state", "size", "hand"] (spX K C F_moved R_moved)) (c__law_pick : CalOk P w K mg base CX0 6 "_law_pick" ["_law_script", "_law_state_here", "_law_size_here", "_law_turn"] (spR K F__law_pick)) : FnOk P w K mg base CX0 7 f fd ["_law_script"] (spR K F_law) := by
  refine D.F.ok sc_law (fun vs H Q E h => spR_len h L_law) (fun cdv A outer s H vs Q E hr h => ?_)
  refine ⟨_, (pss_cons (ps_set (i := 1) sc_law.nd rfl (by first | exact Or.inl rfl | exact Or.inr rfl) (pe_callC c__law_size (hr.mono (by decide)) rfl (pa_cons (pv 0) pa_nil)))
      (pss_cons (ps_set (i := 2) sc_law.nd rfl (by first | exact Or.inl rfl | exact Or.inr rfl) (pe_callC c__law_state (hr.mono (by decide)) rfl (pa_cons (pv 0) pa_nil)))
      (pss_cons (ps_set (i := 3) sc_law.nd rfl (by first | exact Or.inl rfl | exact Or.inr rfl) (pe_callB (call_lenK (K := K) rfl) (by rfl) T.len_ boot_len (pa_cons (pv 2) pa_nil)))
      (pss_cons (ps_for PassesOwn.never rfl (pi_range1 (by rfl) T.range_ (pa_cons (pe_op op_add (pe_op op_fdiv (pe_op op_mulB (pe_op op_mulB pe_int (pv 3)) (pe_op op_sub (pv 3) pe_int)) pe_int) pe_int) pa_nil)) (pg_name (i := 4) sc_law.nd rfl (by first | exact Or.inl rfl | exact Or.inr rfl))
        (pss_cons (ps_set (i := 5) sc_law.nd rfl (by first | exact Or.inl rfl | exact Or.inr rfl) (pe_callC c_marked (hr.mono (by decide)) rfl (pa_cons (pv 2) pa_nil)))
        (pss_cons (ps_if (PW.pt (pw_or (pt_not (pt_truth (pv 5) (fun _ => rfl))) (pw_or1 (PW.pt (pw_and (pt_cmpR op_ge (pv 4) (pe_op op_fdiv (pe_op op_mulB (pe_op op_mulB pe_int (pv 3)) (pe_op op_sub (pv 3) pe_int)) pe_int) (nomark _)) (pw_and1 (pt_cmpR op_gt (pe_callB (call_lenK (K := K) rfl) (by rfl) T.len_ boot_len (pa_cons (pv 5) pa_nil)) pe_int (nomark _))))))))
          (pss_one (ps_ret pe_bl))
          pss_nil)
        (pss_one (ps_set (i := 2) sc_law.nd rfl (by first | exact Or.inl rfl | exact Or.inr rfl) (pe_callL c_moved (hr.mono (by decide)) rfl (pa_cons (pv 2) (pa_cons (pv 1) (pa_cons (pe_callC c__law_pick (hr.mono (by decide)) rfl (pa_cons (pv 0) (pa_cons (pv 2) (pa_cons (pv 1) (pa_cons (pv 4) pa_nil))))) pa_nil)))))))))
      (pss_one (ps_ret (pe_cmpR (op_eqK (K := K) rfl hr.units) (pe_callB (call_lenK (K := K) rfl) (by rfl) T.len_ boot_len (pa_cons (pe_callC c_marked (hr.mono (by decide)) rfl (pa_cons (pv 2) pa_nil)) pa_nil)) pe_int (nomark _)))))))), ?_⟩
  refine spR_body h (fun ds d H0 hF => ?_)
  obtain ⟨ns, rfl, -, -, rfl⟩ := hF
  have hm := many_b ns
  have hz := size_b ns
  obtain ⟨n, hn⟩ : ∃ n : Nat, many ns = (n : Int) := ⟨(many ns).toNat, by omega⟩
  have hl0 : (state ns).length = n := by rw [state_len, hn, Int.toNat_natCast]
  have hv0 : ∀ i : Int, 0 ≤ i → i < n → 0 ≤ st (state ns) i ∧ st (state ns) i < size ns := fun i i0 i1 => by
    have e : st (state ns) i = mix (cell ns 1 + 31 * i) 9949 (size ns) := by
      unfold st state
      rw [getD_mapr (by omega), Int.toNat_of_nonneg i0]
    rw [e]
    exact ⟨mix_lo (by omega), mix_hi (by omega)⟩
  obtain ⟨z, hzz⟩ : ∃ z, size ns = z := ⟨_, rfl⟩
  obtain ⟨s0, hs0⟩ : ∃ s, state ns = s := ⟨_, rfl⟩
  rw [hzz] at hz hv0
  rw [hn] at hm hz
  rw [hs0] at hl0 hv0
  have hn2 : 2 ≤ n := by omega
  have hn8 : n ≤ 8 := by omega
  have hnz : (n : Int) ≤ z := hz.1
  have hT : ∃ T : Nat, 3 * (n : Int) * ((n : Int) - 1) / 2 = (T : Int) ∧ 3 * ((n : Int) * ((n : Int) - 1)) = 2 * (T : Int) ∧ T ≤ 84 := by
    have : n = 2 ∨ n = 3 ∨ n = 4 ∨ n = 5 ∨ n = 6 ∨ n = 7 ∨ n = 8 := by omega
    rcases this with e | e | e | e | e | e | e
    · subst e; exact ⟨3, by decide, by decide, by decide⟩
    · subst e; exact ⟨9, by decide, by decide, by decide⟩
    · subst e; exact ⟨18, by decide, by decide, by decide⟩
    · subst e; exact ⟨30, by decide, by decide, by decide⟩
    · subst e; exact ⟨45, by decide, by decide, by decide⟩
    · subst e; exact ⟨63, by decide, by decide, by decide⟩
    · subst e; exact ⟨84, by decide, by decide, by decide⟩
  obtain ⟨T, hT1, hT2, hT3⟩ := hT
  have evT : ∀ {r : Rho} (t3 : TE), EvD K t3 r (.int (n : Int)) → EvD K (tOp (rI CDiv fun i j => .int (i / j)) (tOp (rI IntMulOk fun i j => .int (i * j)) (tOp (rI IntMulOk fun i j => .int (i * j)) (tC (.int 3)) t3) (tOp (rI0 fun i j => .int (i - j)) t3 (tC (.int 1)))) (tC (.int 2))) r (.int (T : Int)) := fun t3 h3 =>
    ev_is (ev_div (ev_mul (ev_mul ev_int h3 (mulL (by decide) (by decide))) (ev_sub h3 ev_int) (mulR (by omega) (by omega))) ev_int ⟨by decide, by decide⟩) (by rw [hT1])
  show WP K H0 _ [.im (lI ns), .no, .no, .no, .no, .no] _
  refine wp_seq (wp_set (d := .int z) (ev_is (cv_size (ev_im rfl)) (by rw [hzz])) ?_)
  refine wp_seq (wp_set (d := tI s0) (ev_is (cv_state (ev_im rfl)) (by rw [hs0])) ?_)
  refine wp_seq (wp_set (d := .int (n : Int)) (ev_is (ev_len (EvD.toQ (ev_im rfl))) (by rw [List.length_map, hl0])) ?_)
  refine wp_seq (wp_for (ei_rng1 (j := (T : Int) + 12) (ea_cons (ev_add (evT _ (ev_im rfl)) ev_int) ea_nil) (by omega) (by omega))
    (fun i r => ∃ s a4 a5, r = [.im (lI ns), .im (.int z), .im (tI s), .im (.int (n : Int)), a4, a5] ∧ s.length = n ∧ (∀ i : Int, 0 ≤ i → i < n → 0 ≤ st s i ∧ st s i < z) ∧ Pha n z (i : Int) s)
    ⟨s0, _, _, rfl, hl0, hv0, pha_start hn2 hl0 hv0⟩ ?_ ?_)
  · rintro i d _ hi ⟨s, a4, a5, rfl, hl, hv, P⟩
    obtain ⟨t, ht, rfl, hlt⟩ := map_get hi
    rw [irange_len] at hlt
    rw [irange_get hlt, Int.zero_add] at ht
    have et : (i : Int) = t := Option.some.inj ht
    have hc := marks_ne (s := s) (by omega)
    have hpk := pickR_mem (ns := ns) (z := z) (t := t) hc
    have hpm := marks_mem.mp hpk
    refine ⟨_, gs_name, ?_⟩
    refine wp_seq (wp_set (cv_marked (ev_im rfl) (by omega)) ?_)
    refine wp_seq (wp_if (b := false) (et_is (et_or (et_not (et_truth (EvD.toQ (ev_im rfl)))) (fun _ => et_and (et_test (ev_ge (ev_im rfl) (evT _ (ev_im rfl)))) (fun _ => et_test (ev_gt (ev_len (EvD.toQ (ev_im rfl))) ev_int)))) ?_) (fun hb => absurd hb (by decide)) (fun _ => wp_next ?_))
    · have e1 : ((marks s).map PyData.int).isEmpty = false := by
        cases q : marks s with
        | nil => exact absurd q hc
        | cons a l => rfl
      rw [e1]
      by_cases q : (T : Int) ≤ t
      · have L := P.fin hn2 hv (by omega)
        obtain ⟨k, hk⟩ := L.one hn2 (by omega)
        rw [hk, decide_eq_true q]; rfl
      · rw [decide_eq_false q]; rfl
    have hv' : ∀ i : Int, 0 ≤ i → i < n → 0 ≤ st (moved s z (pickR ns s z t)) i ∧ st (moved s z (pickR ns s z t)) i < z := fun i i0 i1 => by
      rw [st_moved hpm.1 hpm.2.1 i0]
      split
      · unfold newNum
        split
        · exact ⟨Int.emod_nonneg _ (by omega), Int.emod_lt_of_pos _ (by omega)⟩
        · have := hv (pickR ns s z t - 1) (by omega) (by omega)
          unfold st at this
          rw [show (pickR ns s z t - 1).toNat = (pickR ns s z t).toNat - 1 by omega] at this
          exact this
      · exact hv i i0 i1
    refine wp_set (cv_moved (ev_im rfl) (ev_im rfl) (cv_pick (ev_im rfl) (ev_im rfl) (ev_im rfl) (ev_im rfl) (by omega) (by omega) hc (by omega)) hpk (by omega) (by omega)) ⟨_, _, _, rfl, by rw [moved_len]; exact hl, hv', ?_⟩
    have := P.step hn2 hnz hpk
    rw [show ((i + 1 : Nat) : Int) = (i : Int) + 1 by omega]
    exact this
  · rintro _ ⟨s, a4, a5, rfl, hl, hv, P⟩
    rw [List.length_map, irange_len] at P
    have L := P.fin hn2 hv (by omega)
    obtain ⟨k, hk⟩ := L.one hn2 (by omega)
    refine wp_ret (ev_is (ev_eqI (ev_is (ev_len (EvD.toQ (cv_marked (ev_im rfl) (by omega)))) (by rw [List.length_map, hk])) ev_int) ?_) rfl
    rfl
end
theorem all_mk {l : PySem.W.OpenLaw} {w : World} {K : PySem.W.Frag} {h : Heap} {mg : Str → Option Value} {fa : Addr} (X : K.In h) (G : h.Ns mainGlobals mg) (hfa : mg "law" = some (.ref fa))
    {f__law_mix : Addr} {oc__law_mix kV__law_mix dc__law_mix pm__law_mix cd__law_mix ct__law_mix : Value} {od__law_mix an__law_mix : Option Addr} {sl__law_mix : Array (Option Value)}
    (a__law_mix : PySem.W.nsIn K mainGlobals "_law_mix" = some (some (.ref f__law_mix)))
    (l__law_mix : K.lookup f__law_mix = some ⟨oc__law_mix, od__law_mix, .func (PySem.W.fnOf "_law_mix" "_law_mix" (defArgs s__law_mix) (defBody s__law_mix) (defScope s__law_mix) .none kV__law_mix dc__law_mix pm__law_mix an__law_mix cd__law_mix ct__law_mix), sl__law_mix⟩)
    (c__law_mix : PySem.W.codeIn K cd__law_mix "_law_mix" = true) (k__law_mix : PySem.W.keepIn K (.ref f__law_mix) = true)
    {f__law_cell : Addr} {oc__law_cell kV__law_cell dc__law_cell pm__law_cell cd__law_cell ct__law_cell : Value} {od__law_cell an__law_cell : Option Addr} {sl__law_cell : Array (Option Value)}
    (a__law_cell : PySem.W.nsIn K mainGlobals "_law_cell" = some (some (.ref f__law_cell)))
    (l__law_cell : K.lookup f__law_cell = some ⟨oc__law_cell, od__law_cell, .func (PySem.W.fnOf "_law_cell" "_law_cell" (defArgs s__law_cell) (defBody s__law_cell) (defScope s__law_cell) .none kV__law_cell dc__law_cell pm__law_cell an__law_cell cd__law_cell ct__law_cell), sl__law_cell⟩)
    (c__law_cell : PySem.W.codeIn K cd__law_cell "_law_cell" = true) (k__law_cell : PySem.W.keepIn K (.ref f__law_cell) = true)
    {f__law_size : Addr} {oc__law_size kV__law_size dc__law_size pm__law_size cd__law_size ct__law_size : Value} {od__law_size an__law_size : Option Addr} {sl__law_size : Array (Option Value)}
    (a__law_size : PySem.W.nsIn K mainGlobals "_law_size" = some (some (.ref f__law_size)))
    (l__law_size : K.lookup f__law_size = some ⟨oc__law_size, od__law_size, .func (PySem.W.fnOf "_law_size" "_law_size" (defArgs s__law_size) (defBody s__law_size) (defScope s__law_size) .none kV__law_size dc__law_size pm__law_size an__law_size cd__law_size ct__law_size), sl__law_size⟩)
    (c__law_size : PySem.W.codeIn K cd__law_size "_law_size" = true) (k__law_size : PySem.W.keepIn K (.ref f__law_size) = true)
    {f__law_state : Addr} {oc__law_state kV__law_state dc__law_state pm__law_state cd__law_state ct__law_state : Value} {od__law_state an__law_state : Option Addr} {sl__law_state : Array (Option Value)}
    (a__law_state : PySem.W.nsIn K mainGlobals "_law_state" = some (some (.ref f__law_state)))
    (l__law_state : K.lookup f__law_state = some ⟨oc__law_state, od__law_state, .func (PySem.W.fnOf "_law_state" "_law_state" (defArgs s__law_state) (defBody s__law_state) (defScope s__law_state) .none kV__law_state dc__law_state pm__law_state an__law_state cd__law_state ct__law_state), sl__law_state⟩)
    (c__law_state : PySem.W.codeIn K cd__law_state "_law_state" = true) (k__law_state : PySem.W.keepIn K (.ref f__law_state) = true)
    {f_has_mark : Addr} {oc_has_mark kV_has_mark dc_has_mark pm_has_mark cd_has_mark ct_has_mark : Value} {od_has_mark an_has_mark : Option Addr} {sl_has_mark : Array (Option Value)}
    (a_has_mark : PySem.W.nsIn K mainGlobals "has_mark" = some (some (.ref f_has_mark)))
    (l_has_mark : K.lookup f_has_mark = some ⟨oc_has_mark, od_has_mark, .func (PySem.W.fnOf "has_mark" "has_mark" (defArgs s_has_mark) (defBody s_has_mark) (defScope s_has_mark) .none kV_has_mark dc_has_mark pm_has_mark an_has_mark cd_has_mark ct_has_mark), sl_has_mark⟩)
    (c_has_mark : PySem.W.codeIn K cd_has_mark "has_mark" = true) (k_has_mark : PySem.W.keepIn K (.ref f_has_mark) = true)
    {f_marked : Addr} {oc_marked kV_marked dc_marked pm_marked cd_marked ct_marked : Value} {od_marked an_marked : Option Addr} {sl_marked : Array (Option Value)}
    (a_marked : PySem.W.nsIn K mainGlobals "marked" = some (some (.ref f_marked)))
    (l_marked : K.lookup f_marked = some ⟨oc_marked, od_marked, .func (PySem.W.fnOf "marked" "marked" (defArgs s_marked) (defBody s_marked) (defScope s_marked) .none kV_marked dc_marked pm_marked an_marked cd_marked ct_marked), sl_marked⟩)
    (c_marked : PySem.W.codeIn K cd_marked "marked" = true) (k_marked : PySem.W.keepIn K (.ref f_marked) = true)
    {f_moved : Addr} {oc_moved kV_moved dc_moved pm_moved cd_moved ct_moved : Value} {od_moved an_moved : Option Addr} {sl_moved : Array (Option Value)}
    (a_moved : PySem.W.nsIn K mainGlobals "moved" = some (some (.ref f_moved)))
    (l_moved : K.lookup f_moved = some ⟨oc_moved, od_moved, .func (PySem.W.fnOf "moved" "moved" (defArgs s_moved) (defBody s_moved) (defScope s_moved) .none kV_moved dc_moved pm_moved an_moved cd_moved ct_moved), sl_moved⟩)
    (c_moved : PySem.W.codeIn K cd_moved "moved" = true) (k_moved : PySem.W.keepIn K (.ref f_moved) = true)
    {f__law_pick : Addr} {oc__law_pick kV__law_pick dc__law_pick pm__law_pick ct__law_pick : Value} {od__law_pick an__law_pick : Option Addr} {sl__law_pick : Array (Option Value)}
    (a__law_pick : PySem.W.nsIn K mainGlobals "_law_pick" = some (some (.ref f__law_pick)))
    {cA : Addr}
    (l__law_pick : K.lookup f__law_pick = some ⟨oc__law_pick, od__law_pick, .func (PySem.W.fnOf "_law_pick" "_law_pick" (defArgs s__law_pick) (defBody s__law_pick) (defScope s__law_pick) .none kV__law_pick dc__law_pick pm__law_pick an__law_pick (.ref cA) ct__law_pick), sl__law_pick⟩)
    (c__law_pick : PySem.W.codeIn K (.ref cA) "_law_pick" = true) (k__law_pick : PySem.W.keepIn K (.ref f__law_pick) = true)
    {f_law : Addr} {oc_law kV_law dc_law pm_law cd_law ct_law : Value} {od_law an_law : Option Addr} {sl_law : Array (Option Value)}
    (a_law : PySem.W.nsIn K mainGlobals "law" = some (some (.ref f_law)))
    (l_law : K.lookup f_law = some ⟨oc_law, od_law, .func (PySem.W.fnOf "law" "law" (defArgs s_law) (defBody s_law) (defScope s_law) .none kV_law dc_law pm_law an_law cd_law ct_law), sl_law⟩)
    (c_law : PySem.W.codeIn K cd_law "law" = true) (k_law : PySem.W.keepIn K (.ref f_law) = true)
    (b_len : PySem.W.nsIn K mainGlobals "len" = some none)
    (b_sorted : PySem.W.nsIn K mainGlobals "sorted" = some none)
    (b_min : PySem.W.nsIn K mainGlobals "min" = some none)
    (b_max : PySem.W.nsIn K mainGlobals "max" = some none)
    (b_all : PySem.W.nsIn K mainGlobals "all" = some none)
    (b_isinstance : PySem.W.nsIn K mainGlobals "isinstance" = some none)
    (b_tuple : PySem.W.nsIn K mainGlobals "tuple" = some none)
    (b_list : PySem.W.nsIn K mainGlobals "list" = some none)
    (b_int : PySem.W.nsIn K mainGlobals "int" = some none)
    (b_bool : PySem.W.nsIn K mainGlobals "bool" = some none)
    (b_range : PySem.W.nsIn K mainGlobals "range" = some none)
    (b_enumerate : PySem.W.nsIn K mainGlobals "enumerate" = some none)
    (b_reversed : PySem.W.nsIn K mainGlobals "reversed" = some none)
    (b_ValueError : PySem.W.nsIn K mainGlobals "ValueError" = some none)
    {C : Addr} (zg : PySem.W.nsIn K mainGlobals "NotNow" = some (some (.ref C))) (zx : PySem.W.excIn K C [.type "ValueError", .type "Exception", .type "BaseException", .type "object"] "ValueError.__new__" = true)
    (zk : PySem.W.keepIn K (.ref C) = true) (zb : PySem.W.subIn K (.ref C) (.type "BaseException") = some true) (zt : PySem.W.typeIn K (.ref C) = some (.type "type"))
    (hT1 : PySem.W.codeHdIn K cA PL = true) (hT2 : K.lookup PL = none)
    : ∃ (cA : Addr) (fd : FuncData), PySem.W.codeHdIn K cA PL = true ∧ K.lookup PL = none ∧ (∀ (s : Shared) (v : Value), BindsTo s fd ⟨[v], []⟩ [("_law_script", v)]) ∧ ∀ base : Heap, K.In base → base.Ns mainGlobals mg → LamX.TabB base mg cA PL → FnOk l.prog w K mg base CX0 7 fa fd ["_law_script"] (spR K F_law) := by
  have e := hfa.symm.trans (PySem.W.mg_of X G a_law)
  cases e
  have T : Bt mg := ⟨PySem.W.mg_none_of X G b_len, PySem.W.mg_none_of X G b_sorted, PySem.W.mg_none_of X G b_min, PySem.W.mg_none_of X G b_max, PySem.W.mg_none_of X G b_all, PySem.W.mg_none_of X G b_isinstance, PySem.W.mg_none_of X G b_tuple, PySem.W.mg_none_of X G b_list, PySem.W.mg_none_of X G b_int, PySem.W.mg_none_of X G b_bool, PySem.W.mg_none_of X G b_range, PySem.W.mg_none_of X G b_enumerate, PySem.W.mg_none_of X G b_reversed, PySem.W.mg_none_of X G b_ValueError⟩
  have Z : Ze K mg C := ⟨zx, PySem.W.mg_of X G zg, zk, zb, zt⟩
  refine ⟨cA, PySem.W.fnOf "law" "law" (defArgs s_law) (defBody s_law) (defScope s_law) .none kV_law dc_law pm_law an_law cd_law ct_law, hT1, hT2, fun s v => .of_eq rfl, fun base _ _ TB => ?_⟩
  have g__law_mix := ok__law_mix (P := l.prog) (w := w) (base := base) ⟨fun_mk (st := s__law_mix) l__law_mix c__law_mix k__law_mix, PySem.W.mg_of X G a__law_mix⟩ T
  have g__law_cell := ok__law_cell (P := l.prog) (w := w) (base := base) ⟨fun_mk (st := s__law_cell) l__law_cell c__law_cell k__law_cell, PySem.W.mg_of X G a__law_cell⟩ T
  have g__law_size := ok__law_size (P := l.prog) (w := w) (base := base) ⟨fun_mk (st := s__law_size) l__law_size c__law_size k__law_size, PySem.W.mg_of X G a__law_size⟩ T g__law_mix g__law_cell
  have g__law_state := ok__law_state (P := l.prog) (w := w) (base := base) ⟨fun_mk (st := s__law_state) l__law_state c__law_state k__law_state, PySem.W.mg_of X G a__law_state⟩ T g__law_mix g__law_cell g__law_size
  have g_has_mark := ok_has_mark (P := l.prog) (w := w) (base := base) ⟨fun_mk (st := s_has_mark) l_has_mark c_has_mark k_has_mark, PySem.W.mg_of X G a_has_mark⟩ T
  have g_marked := ok_marked (P := l.prog) (w := w) (base := base) ⟨fun_mk (st := s_marked) l_marked c_marked k_marked, PySem.W.mg_of X G a_marked⟩ T g_has_mark
  have g_moved := ok_moved (P := l.prog) (w := w) (base := base) ⟨fun_mk (st := s_moved) l_moved c_moved k_moved, PySem.W.mg_of X G a_moved⟩ T Z g_marked
  have g__law_pick := ok__law_pick (P := l.prog) (w := w) (base := base) ⟨fun_mk (st := s__law_pick) l__law_pick c__law_pick k__law_pick, PySem.W.mg_of X G a__law_pick⟩ rfl TB T g_marked g__law_cell g__law_mix g_moved
  exact fn_law (P := l.prog) (w := w) (base := base) ⟨fun_mk (st := s_law) l_law c_law k_law, PySem.W.mg_of X G a_law⟩ T g__law_size g__law_state g_marked g_moved g__law_pick

theorem walk {l : PySem.W.OpenLaw} {q : Program} {loose : List Str} {XP : (Str → Option Value) → Heap → Prop} {YP : World → Heap → Prop} {d : DefRec} {K : Params → PySem.W.Frag} (hn : l.most = some 63) (hdf : d.params.defaults = [])
    (hY : ∀ (w : World) (h : Heap), YP w h → (K w.params).In h) (hT : ∀ (w : World) (h : Heap), YP w h → h.get? PL = some (PySem.W.tabObj #[]))
    (F : ∀ (w : World) (mg : Str → Option Value) (fa : Addr) (h : Heap), (K w.params).In h → h.Ns mainGlobals mg → mg d.name = some (.ref fa) →
      ∃ (cA : Addr) (fd : FuncData), PySem.W.codeHdIn (K w.params) cA PL = true ∧ (K w.params).lookup PL = none ∧ (∀ (s : Shared) (u : Value), BindsTo s fd ⟨[u], []⟩ [("_law_script", u)]) ∧ ∀ base : Heap, (K w.params).In base → base.Ns mainGlobals mg → LamX.TabB base mg cA PL → FnOk l.prog w (K w.params) mg base CX0 7 fa fd ["_law_script"] (spR (K w.params) F_law)) :
    PySem.W.WalkO q loose XP YP l.row.toRowW d [] (fun f vs => PySem.call f vs) :=
  LamX.walk_ofTs (n := 63) (k := 7) (x := "_law_script") (CX := fun _ => CX0) hn (by decide) hdf ⟨rfl, by decide, by decide⟩ hY (fun w mg fa h Y KX G hm => by
    obtain ⟨cA, fd, h1, h2, h3, h4⟩ := F w mg fa h KX G hm
    refine ⟨fd, [(cA, PL)], spR (K w.params) F_law, fun p hp => ?_, fun p hp => ?_, fun p hp => ?_, h3, fun H a ns hl hb hH hS => ?_, fun base a b c => h4 base a b (c (cA, PL) List.mem_cons_self)⟩
    · rw [List.mem_singleton.mp hp]; exact hT w h Y
    · rw [List.mem_singleton.mp hp]; exact h2
    · rw [List.mem_singleton.mp hp]; exact PySem.W.codeHd_of_K KX h1
    · exact sp_start (hH (cA, PL) List.mem_cons_self) hS ⟨ns, rfl, hl, hb, rfl⟩) fun _ _ _ _ _ z => z
end Od

open PySem PySem.W PyProof.Rows in
set_option maxRecDepth 100000 in
set_option maxHeartbeats 0 in
theorem PySem.Challenge.cw_oddreel_k03_whole_one_mark_at_last_holds : PySem.Challenge.rw_oddreel_k03_whole_one_mark_at_last.Holds := by
  w_on; o_law; k_head; (case hw => w_witness2)
  k_fill
  refine Od.walk (l := PySem.Challenge.rw_oddreel_k03_whole_one_mark_at_last) rfl rfl (fun w h Y => PySem.W.km_in_of Y) (fun w h Y => PySem.W.km_tabs_of Y _ (by unfold Od.PL; simp)) ?F
  case F =>
    intro w mg fa h KX G hmg
    refine' Od.all_mk KX G hmg ?a__law_mix ?l__law_mix ?c__law_mix ?k__law_mix ?a__law_cell ?l__law_cell ?c__law_cell ?k__law_cell ?a__law_size ?l__law_size ?c__law_size ?k__law_size ?a__law_state ?l__law_state ?c__law_state ?k__law_state ?a_has_mark ?l_has_mark ?c_has_mark ?k_has_mark ?a_marked ?l_marked ?c_marked ?k_marked ?a_moved ?l_moved ?c_moved ?k_moved ?a__law_pick ?l__law_pick ?c__law_pick ?k__law_pick ?a_law ?l_law ?c_law ?k_law ?b_len ?b_sorted ?b_min ?b_max ?b_all ?b_isinstance ?b_tuple ?b_list ?b_int ?b_bool ?b_range ?b_enumerate ?b_reversed ?b_ValueError ?zg ?zx ?zk ?zb ?zt ?hT1 ?hT2
    (case a__law_mix => k_is)
    (case l__law_mix => k_is)
    (case c__law_mix => k_is)
    (case k__law_mix => k_is)
    (case a__law_cell => k_is)
    (case l__law_cell => k_is)
    (case c__law_cell => k_is)
    (case k__law_cell => k_is)
    (case a__law_size => k_is)
    (case l__law_size => k_is)
    (case c__law_size => k_is)
    (case k__law_size => k_is)
    (case a__law_state => k_is)
    (case l__law_state => k_is)
    (case c__law_state => k_is)
    (case k__law_state => k_is)
    (case a_has_mark => k_is)
    (case l_has_mark => k_is)
    (case c_has_mark => k_is)
    (case k_has_mark => k_is)
    (case a_marked => k_is)
    (case l_marked => k_is)
    (case c_marked => k_is)
    (case k_marked => k_is)
    (case a_moved => k_is)
    (case l_moved => k_is)
    (case c_moved => k_is)
    (case k_moved => k_is)
    (case a__law_pick => k_is)
    (case l__law_pick => k_is)
    (case c__law_pick => k_is)
    (case k__law_pick => k_is)
    (case a_law => k_is)
    (case l_law => k_is)
    (case c_law => k_is)
    (case k_law => k_is)
    (case b_len => k_is)
    (case b_sorted => k_is)
    (case b_min => k_is)
    (case b_max => k_is)
    (case b_all => k_is)
    (case b_isinstance => k_is)
    (case b_tuple => k_is)
    (case b_list => k_is)
    (case b_int => k_is)
    (case b_bool => k_is)
    (case b_range => k_is)
    (case b_enumerate => k_is)
    (case b_reversed => k_is)
    (case b_ValueError => k_is)
    (case zg => k_is)
    (case zx => k_exc)
    (case zk => k_is)
    (case zb => k_is)
    (case zt => k_is)
    (case hT1 => kernel_rfl)
    (case hT2 => kernel_rfl)
