import PyProof.Rows.All
import Wide.All
import OpenK.AllK
import Wide.FinOn
import HandS.ForMost
import HandS.ForExc
import HandS.TupAny
import HandS.TupMul
import HandS.SortInts
import HandS.IsInst
import HandS.Style
import HandS.EndBits
import HandS.ExcIs
import HandS.Conv
import PySem.Challenge.RW_oddreel_k01_states_and_nets
set_option Elab.async false
set_option linter.all false
set_option maxRecDepth 100000
set_option maxHeartbeats 4000000
namespace Od
open PySem PySem.Spec PyProof.Rows L2

/-! ### data -/
section
variable {K : PySem.W.Frag} {H H' : Hp}
theorem sqt_mono {a : Addr} {xs : List V} (e : Same H H') (h : SqT K H a xs) : SqT K H' a xs := by
  rcases h with (h | ⟨o, h⟩) | h
  · exact .inl (.inl (e _ _ h))
  · exact .inl (.inr ⟨o, e _ _ h⟩)
  · exact .inr h
mutual
theorem dp_mono (e : Same H H') : ∀ (d : PyData) (v : V), Dp K H v d → Dp K H' v d
  | .none, _, h => by cases h; exact .non
  | .bool b, _, h => by cases h; exact .bl b
  | .int i, _, h => by cases h; exact .int i
  | .str x, _, h => by cases h; exact .str x
  | .list ds, _, h => by
    cases h with
    | lst hs ha => exact .lst (e.seq hs) (dpa_mono e ds _ ha)
  | .tuple ds, _, h => by
    cases h with
    | tup hs ha => exact .tup (sqt_mono e hs) (dpa_mono e ds _ ha)
  | .dict _, _, h => by cases h
theorem dpa_mono (e : Same H H') : ∀ (ds : List PyData) (vs : List V), DpAll K H vs ds → DpAll K H' vs ds
  | [], _, h => by cases h; exact .nil
  | d :: ds, _, h => by
    cases h with
    | cons h1 h2 => exact .cons (dp_mono e d _ h1) (dpa_mono e ds _ h2)
end
theorem dpa_len : ∀ {vs : List V} {ds : List PyData}, DpAll K H vs ds → vs.length = ds.length
  | _, _, .nil => rfl
  | _, _, .cons _ t => by rw [List.length_cons, List.length_cons, dpa_len t]
theorem dpa_get : ∀ {vs : List V} {ds : List PyData} {i : Nat} {d : PyData}, DpAll K H vs ds → ds[i]? = some d → ∃ v, vs[i]? = some v ∧ Dp K H v d
  | _, _, _, _, .nil, e => by simp at e
  | _, _, 0, _, .cons r _, e => by simp at e; subst e; exact ⟨_, rfl, r⟩
  | _, _, i + 1, _, .cons _ t, e => by
    obtain ⟨v, h1, h2⟩ := dpa_get (i := i) t (by simpa using e)
    exact ⟨v, by simpa using h1, h2⟩
theorem dpa_getv : ∀ {vs : List V} {ds : List PyData} {i : Nat} {v : V}, DpAll K H vs ds → vs[i]? = some v → ∃ d, ds[i]? = some d ∧ Dp K H v d
  | _, _, _, _, .nil, e => by simp at e
  | _, _, 0, _, .cons r _, e => by simp at e; subst e; exact ⟨_, rfl, r⟩
  | _, _, i + 1, _, .cons _ t, e => by
    obtain ⟨d, h1, h2⟩ := dpa_getv (i := i) t (by simpa using e)
    exact ⟨d, by simpa using h1, h2⟩
theorem dpa_app : ∀ {vs ws : List V} {ds es : List PyData}, DpAll K H vs ds → DpAll K H ws es → DpAll K H (vs ++ ws) (ds ++ es)
  | _, _, _, _, .nil, s => s
  | _, _, _, _, .cons r t, s => .cons r (dpa_app t s)
theorem dpa_take : ∀ {vs : List V} {ds : List PyData} (n : Nat), DpAll K H vs ds → DpAll K H (vs.take n) (ds.take n)
  | _, _, 0, _ => .nil
  | _, _, _ + 1, .nil => .nil
  | _, _, n + 1, .cons r t => .cons r (dpa_take n t)
theorem dpa_drop : ∀ {vs : List V} {ds : List PyData} (n : Nat), DpAll K H vs ds → DpAll K H (vs.drop n) (ds.drop n)
  | _, _, 0, s => s
  | _, _, _ + 1, .nil => .nil
  | _, _, n + 1, .cons _ t => dpa_drop n t
theorem dpa_set {v : V} {d : PyData} (r : Dp K H v d) : ∀ {vs : List V} {ds : List PyData} (n : Nat), DpAll K H vs ds → DpAll K H (vs.set n v) (ds.set n d)
  | _, _, _, .nil => .nil
  | _, _, 0, .cons _ t => .cons r t
  | _, _, n + 1, .cons q t => .cons q (dpa_set r n t)
theorem dpa_erase : ∀ {vs : List V} {ds : List PyData} (n : Nat), DpAll K H vs ds → DpAll K H (vs.eraseIdx n) (ds.eraseIdx n)
  | _, _, _, .nil => .nil
  | _, _, 0, .cons _ t => t
  | _, _, n + 1, .cons q t => .cons q (dpa_erase n t)
theorem dpa_ints : ∀ ns : List Int, DpAll K H (ns.map V.int) (ns.map PyData.int)
  | [] => .nil
  | n :: ns => .cons (.int n) (dpa_ints ns)
theorem dpa_ints_inv : ∀ {ns : List Int} {vs : List V}, DpAll K H vs (ns.map PyData.int) → vs = ns.map V.int
  | [], _, h => by cases h; rfl
  | n :: ns, _, h => by
    cases h with
    | cons h1 h2 => cases h1; rw [dpa_ints_inv h2]; rfl
theorem dpa_bls : ∀ bs : List Bool, DpAll K H (bs.map V.bl) (bs.map PyData.bool)
  | [] => .nil
  | b :: bs => .cons (.bl b) (dpa_bls bs)
theorem dpa_bls_inv : ∀ {bs : List Bool} {vs : List V}, DpAll K H vs (bs.map PyData.bool) → vs = bs.map V.bl
  | [], _, h => by cases h; rfl
  | n :: ns, _, h => by
    cases h with
    | cons h1 h2 => cases h1; rw [dpa_bls_inv h2]; rfl
theorem dpa_rep {v : V} {d : PyData} (r : Dp K H v d) : ∀ n : Nat, DpAll K H (List.replicate n v) (List.replicate n d)
  | 0 => .nil
  | n + 1 => .cons r (dpa_rep r n)
end

/-! ### a step: base and heap grow; what the base does not know of the heap it does not learn -/
structure Stp (B H B' H' : Hp) : Prop where
  b : Same B B'
  h : Same H H'
  i : Same B' H'
  f : ∀ a, B a = none → H a ≠ none → B' a = none
theorem Stp.refl {B H : Hp} (i : Same B H) : Stp B H B H := ⟨.refl _, .refl _, i, fun a h _ => h⟩
theorem Stp.trans {B H B1 H1 B2 H2 : Hp} (x : Stp B H B1 H1) (y : Stp B1 H1 B2 H2) : Stp B H B2 H2 := ⟨x.b.trans y.b, x.h.trans y.h, y.i, fun a n m => y.f a (x.f a n m) (by
  cases q : H a with
  | none => exact absurd q m
  | some o => rw [x.h a o q]; exact fun z => nomatch z)⟩
theorem same_new {H : Hp} {p : Addr} {o : HO} (h : H p = none) : Same H (upd H p o) := fun b x e => by
  rw [upd_ne (ne_of_none e h)]
  exact e
theorem same_upd {B H : Hp} {p : Addr} {o : HO} (i : Same B H) : Same (upd B p o) (upd H p o) := fun b x e => by
  by_cases hb : b = p
  · subst hb; rw [upd_same] at e; rw [upd_same]; exact e
  · rw [upd_ne hb] at e; rw [upd_ne hb]; exact i _ _ e
theorem same_mut {B H : Hp} {p : Addr} {o : HO} (i : Same B H) (h : B p = none) : Same B (upd H p o) := fun b x e => by
  rw [upd_ne (ne_of_none e h)]
  exact i _ _ e
theorem Stp.new {B H : Hp} {p : Addr} {o : HO} (i : Same B H) (h : H p = none) : Stp B H (upd B p o) (upd H p o) :=
  ⟨same_new (i.free h), same_new h, same_upd i, fun a n m => by
    have : a ≠ p := fun z => m (by rw [z]; exact h)
    rw [upd_ne this]; exact n⟩
/-- a new object that the base does not take up -/
theorem Stp.skip {B H : Hp} {p : Addr} {o : HO} (i : Same B H) (h : H p = none) : Stp B H B (upd H p o) :=
  ⟨.refl _, same_new h, same_mut i (i.free h), fun a n _ => n⟩
/-- a new object, not in the base at the start, changes -/
theorem Stp.mut {B H B' H' : Hp} {p : Addr} {o : HO} (x : Stp B H B' H') (h : H p = none) (hb : B' p = none) : Stp B H B' (upd H' p o) :=
  ⟨x.b, same_mut x.h h, same_mut x.i hb, x.f⟩
/-- .. and is taken up -/
theorem Stp.take {B H B' H' : Hp} {p : Addr} {o : HO} (x : Stp B H B' H') (h : H p = none) (hb : B' p = none) (hh : H' p = some o) : Stp B H (upd B' p o) H' :=
  ⟨fun a u e => by
    have : a ≠ p := fun z => by rw [z, (x.i.free (l := p) |> fun _ => (show B p = none from by
      cases q : B p with
      | none => rfl
      | some w => have := x.b _ _ q; rw [hb] at this; cases this))] at e; cases e
    rw [upd_ne this]; exact x.b _ _ e, x.h, fun a u e => by
    by_cases z : a = p
    · subst z; rw [upd_same] at e; cases e; exact hh
    · rw [upd_ne z] at e; exact x.i _ _ e, fun a n m => by
    have : a ≠ p := fun z => m (by rw [z]; exact h)
    rw [upd_ne this]; exact x.f a n m⟩

/-! ### slots -/
inductive Sl where
  | no
  | im (d : PyData)
  | ow (ds : List PyData)
abbrev Rho := List Sl

structure EnvR (K : PySem.W.Frag) (B H : Hp) (s : L2.St) (r : Rho) : Prop where
  i : Same B H
  len : s.length = r.length
  im : ∀ {n : Nat} {d : PyData}, r[n]? = some (.im d) → ∃ v, s[n]? = some (some v) ∧ Dp K B v d
  ow : ∀ {n : Nat} {ds : List PyData}, r[n]? = some (.ow ds) → ∃ l xs, s[n]? = some (some (.ref l)) ∧ H l = some (.lst xs) ∧ DpAll K B xs ds ∧ B l = none
  ne : ∀ {n m : Nat} {ds es : List PyData} {l : Addr}, r[n]? = some (.ow ds) → r[m]? = some (.ow es) → s[n]? = some (some (.ref l)) → s[m]? = some (some (.ref l)) → n = m
section
variable {K : PySem.W.Frag} {B H B' H' : Hp} {s : L2.St} {r : Rho}
theorem EnvR.mono (e : EnvR K B H s r) (x : Stp B H B' H') : EnvR K B' H' s r where
  i := x.i
  len := e.len
  im := fun h => let ⟨v, h1, h2⟩ := e.im h; ⟨v, h1, dp_mono x.b _ _ h2⟩
  ow := fun h => let ⟨l, xs, h1, h2, h3, h4⟩ := e.ow h; ⟨l, xs, h1, x.h _ _ h2, dpa_mono x.b _ _ h3, x.f _ h4 (by rw [h2]; exact fun z => nomatch z)⟩
  ne := e.ne
theorem get_set {α : Type} {l : List α} {n m : Nat} {a b : α} (h : (l.set n a)[m]? = some b) : (m = n ∧ b = a ∧ n < l.length) ∨ (m ≠ n ∧ l[m]? = some b) := by
  rw [List.getElem?_set] at h
  split at h
  · rename_i e
    split at h
    · rename_i z
      cases h
      exact .inl ⟨e.symm, rfl, z⟩
    · cases h
  · rename_i e
    exact .inr ⟨fun z => e z.symm, h⟩
theorem EnvR.set_im (e : EnvR K B H s r) {n : Nat} {v : V} {d : PyData} (h : Dp K B v d) : EnvR K B H (s.set n (some v)) (r.set n (.im d)) where
  i := e.i
  len := by rw [List.length_set, List.length_set, e.len]
  im := fun {m d'} h' => by
    rcases get_set h' with ⟨rfl, h1, h2⟩ | ⟨h1, h2⟩
    · cases h1
      exact ⟨v, by rw [List.getElem?_set_self (by rw [e.len]; exact h2)], h⟩
    · obtain ⟨w, q1, q2⟩ := e.im h2
      exact ⟨w, by rw [List.getElem?_set_ne (fun z => h1 z.symm)]; exact q1, q2⟩
  ow := fun {m ds} h' => by
    rcases get_set h' with ⟨rfl, h1, h2⟩ | ⟨h1, h2⟩
    · cases h1
    · obtain ⟨l, xs, q1, q2⟩ := e.ow h2
      exact ⟨l, xs, by rw [List.getElem?_set_ne (fun z => h1 z.symm)]; exact q1, q2⟩
  ne := fun {n1 n2 ds es l} h1 h2 h3 h4 => by
    rcases get_set h1 with ⟨_, z, _⟩ | ⟨a1, a2⟩
    · cases z
    rcases get_set h2 with ⟨_, z, _⟩ | ⟨b1, b2⟩
    · cases z
    rw [List.getElem?_set_ne (fun z => a1 z.symm)] at h3
    rw [List.getElem?_set_ne (fun z => b1 z.symm)] at h4
    exact e.ne a2 b2 h3 h4
theorem EnvR.set_no (e : EnvR K B H s r) {n : Nat} {o : Option V} : EnvR K B H (s.set n o) (r.set n .no) where
  i := e.i
  len := by rw [List.length_set, List.length_set, e.len]
  im := fun {m d'} h' => by
    rcases get_set h' with ⟨rfl, h1, h2⟩ | ⟨h1, h2⟩
    · cases h1
    · obtain ⟨w, q1, q2⟩ := e.im h2
      exact ⟨w, by rw [List.getElem?_set_ne (fun z => h1 z.symm)]; exact q1, q2⟩
  ow := fun {m ds} h' => by
    rcases get_set h' with ⟨rfl, h1, h2⟩ | ⟨h1, h2⟩
    · cases h1
    · obtain ⟨l, xs, q1, q2⟩ := e.ow h2
      exact ⟨l, xs, by rw [List.getElem?_set_ne (fun z => h1 z.symm)]; exact q1, q2⟩
  ne := fun {n1 n2 ds es l} h1 h2 h3 h4 => by
    rcases get_set h1 with ⟨_, z, _⟩ | ⟨a1, a2⟩
    · cases z
    rcases get_set h2 with ⟨_, z, _⟩ | ⟨b1, b2⟩
    · cases z
    rw [List.getElem?_set_ne (fun z => a1 z.symm)] at h3
    rw [List.getElem?_set_ne (fun z => b1 z.symm)] at h4
    exact e.ne a2 b2 h3 h4
/-- a new own list, at l -/
theorem EnvR.set_ow (e : EnvR K B H s r) (x : Stp B H B' H') {n : Nat} {l : Addr} {xs : List V} {ds : List PyData} (hn : H l = none) (hl : H' l = some (.lst xs)) (hb : B' l = none) (hd : DpAll K B' xs ds) :
    EnvR K B' H' (s.set n (some (.ref l))) (r.set n (.ow ds)) where
  i := x.i
  len := by rw [List.length_set, List.length_set, e.len]
  im := fun {m d'} h' => by
    rcases get_set h' with ⟨rfl, h1, h2⟩ | ⟨h1, h2⟩
    · cases h1
    · obtain ⟨w, q1, q2⟩ := e.im h2
      exact ⟨w, by rw [List.getElem?_set_ne (fun z => h1 z.symm)]; exact q1, dp_mono x.b _ _ q2⟩
  ow := fun {m es} h' => by
    rcases get_set h' with ⟨rfl, h1, h2⟩ | ⟨h1, h2⟩
    · cases h1
      exact ⟨l, xs, by rw [List.getElem?_set_self (by rw [e.len]; exact h2)], hl, hd, hb⟩
    · obtain ⟨l', ys, q1, q2⟩ := (e.mono x).ow h2
      exact ⟨l', ys, by rw [List.getElem?_set_ne (fun z => h1 z.symm)]; exact q1, q2⟩
  ne := fun {n1 n2 ds1 ds2 l'} h1 h2 h3 h4 => by
    rcases get_set h1 with ⟨rfl, z, a2⟩ | ⟨a1, a2⟩
    · rcases get_set h2 with ⟨rfl, z2, b2⟩ | ⟨b1, b2⟩
      · rfl
      · rw [List.getElem?_set_self (by rw [e.len]; exact a2)] at h3
        cases h3
        rw [List.getElem?_set_ne (fun z => b1 z.symm)] at h4
        obtain ⟨l2, ys, q1, q2, _⟩ := e.ow b2
        rw [h4] at q1; cases q1
        rw [hn] at q2; cases q2
    · rcases get_set h2 with ⟨rfl, z2, b2⟩ | ⟨b1, b2⟩
      · rw [List.getElem?_set_self (by rw [e.len]; exact b2)] at h4
        cases h4
        rw [List.getElem?_set_ne (fun z => a1 z.symm)] at h3
        obtain ⟨l2, ys, q1, q2, _⟩ := e.ow a2
        rw [h3] at q1; cases q1
        rw [hn] at q2; cases q2
      · rw [List.getElem?_set_ne (fun z => a1 z.symm)] at h3
        rw [List.getElem?_set_ne (fun z => b1 z.symm)] at h4
        exact e.ne a2 b2 h3 h4
/-- an own list is changed -/
theorem EnvR.mut (e : EnvR K B H s r) {n : Nat} {l : Addr} {xs : List V} {ds ds' : List PyData} (hr : r[n]? = some (.ow ds)) (hs : s[n]? = some (some (.ref l))) (hd : DpAll K B xs ds') :
    EnvR K B (upd H l (.lst xs)) s (r.set n (.ow ds')) where
  i := by
    obtain ⟨l', ys, q1, _, _, q4⟩ := e.ow hr
    rw [hs] at q1; cases q1
    exact same_mut e.i q4
  len := by rw [List.length_set, e.len]
  im := fun {m d'} h' => by
    rcases get_set h' with ⟨rfl, h1, h2⟩ | ⟨h1, h2⟩
    · cases h1
    · exact e.im h2
  ow := fun {m es} h' => by
    obtain ⟨l0, ys0, q1, _, _, q4⟩ := e.ow hr
    rw [hs] at q1; cases q1
    rcases get_set h' with ⟨rfl, h1, h2⟩ | ⟨h1, h2⟩
    · cases h1
      exact ⟨l, xs, hs, upd_same, hd, q4⟩
    · obtain ⟨l', ys, p1, p2, p3, p4⟩ := e.ow h2
      have : l' ≠ l := fun z => by
        subst z
        exact h1 (e.ne h2 hr p1 hs)
      exact ⟨l', ys, p1, by rw [upd_ne this]; exact p2, p3, p4⟩
  ne := fun {n1 n2 ds1 ds2 l'} h1 h2 h3 h4 => by
    rcases get_set h1 with ⟨rfl, z, a2⟩ | ⟨a1, a2⟩
    · rcases get_set h2 with ⟨rfl, z2, b2⟩ | ⟨b1, b2⟩
      · rfl
      · exact e.ne hr b2 h3 h4
    · rcases get_set h2 with ⟨rfl, z2, b2⟩ | ⟨b1, b2⟩
      · exact e.ne a2 hr h3 h4
      · exact e.ne a2 b2 h3 h4
end
end Od

namespace Od
open PySem PySem.Spec PyProof.Rows L2

/-! ### what evaluates to what -/
abbrev Res := V → Hp → Hp → Prop
def Ev (K : PySem.W.Frag) (te : TE) (r : Rho) (R : Res) : Prop := ∀ B H s, EnvR K B H s r → ∀ Q : VK, (∀ v B' H', Stp B H B' H' → R v B' H' → Q v H') → te s H Q
def EvT (K : PySem.W.Frag) (tt : TT) (r : Rho) (b : Bool) : Prop := ∀ B H s, EnvR K B H s r → ∀ Q : Bool → Hp → Prop, (∀ B' H', Stp B H B' H' → Q b H') → tt s H Q
def EvA (K : PySem.W.Frag) (ta : TA) (r : Rho) (ds : List PyData) : Prop := ∀ B H s, EnvR K B H s r → ∀ Q : List V → Hp → Prop, (∀ vs B' H', Stp B H B' H' → DpAll K B' vs ds → Q vs H') → ta s H Q
/-- data that the base knows; data of the heap; a list or tuple; a list; a tuple -/
def rD (K : PySem.W.Frag) (d : PyData) : Res := fun v B _ => Dp K B v d
def rH (K : PySem.W.Frag) (d : PyData) : Res := fun v _ H => Dp K H v d
def rQ (K : PySem.W.Frag) (ds : List PyData) : Res := fun v B H => ∃ a xs, v = .ref a ∧ (SqL K H a xs ∨ SqT K H a xs) ∧ DpAll K B xs ds
def rL (K : PySem.W.Frag) (ds : List PyData) : Res := fun v B H => ∃ a xs, v = .ref a ∧ SqL K H a xs ∧ DpAll K B xs ds
/-- a list that is tracked -/
def rM (K : PySem.W.Frag) (ds : List PyData) : Res := fun v B H => ∃ a xs, v = .ref a ∧ H a = some (.lst xs) ∧ DpAll K B xs ds
abbrev EvD (K : PySem.W.Frag) (te : TE) (r : Rho) (d : PyData) : Prop := Ev K te r (rD K d)
abbrev EvH (K : PySem.W.Frag) (te : TE) (r : Rho) (d : PyData) : Prop := Ev K te r (rH K d)
abbrev EvQ (K : PySem.W.Frag) (te : TE) (r : Rho) (ds : List PyData) : Prop := Ev K te r (rQ K ds)
abbrev EvL (K : PySem.W.Frag) (te : TE) (r : Rho) (ds : List PyData) : Prop := Ev K te r (rL K ds)
abbrev EvM (K : PySem.W.Frag) (te : TE) (r : Rho) (ds : List PyData) : Prop := Ev K te r (rM K ds)
/-- a NEW list -/
def EvN (K : PySem.W.Frag) (te : TE) (r : Rho) (ds : List PyData) : Prop := ∀ B H s, EnvR K B H s r → ∀ Q : VK,
  (∀ l xs B' H', Stp B H B' H' → H l = none → H' l = some (.lst xs) → B' l = none → DpAll K B' xs ds → Q (.ref l) H') → te s H Q
def Mono (R : Res) : Prop := ∀ v B H B' H', Stp B H B' H' → R v B H → R v B' H'
section
variable {K : PySem.W.Frag} {r : Rho} {d e f : PyData} {ds es : List PyData} {te ta tb tc : TE} {R Ra Rb Rc : Res}
theorem mD : Mono (rD K d) := fun _ _ _ _ _ x h => dp_mono x.b _ _ h
theorem mH : Mono (rH K d) := fun _ _ _ _ _ x h => dp_mono x.h _ _ h
theorem mQ : Mono (rQ K ds) := fun _ _ _ _ _ x ⟨a, xs, h1, h2, h3⟩ => ⟨a, xs, h1, h2.imp (fun z => x.h.seq z) (fun z => sqt_mono x.h z), dpa_mono x.b _ _ h3⟩
theorem mL : Mono (rL K ds) := fun _ _ _ _ _ x ⟨a, xs, h1, h2, h3⟩ => ⟨a, xs, h1, x.h.seq h2, dpa_mono x.b _ _ h3⟩
theorem mM : Mono (rM K ds) := fun _ _ _ _ _ x ⟨a, xs, h1, h2, h3⟩ => ⟨a, xs, h1, x.h _ _ h2, dpa_mono x.b _ _ h3⟩
theorem Ev.imp (h : Ev K te r R) (q : ∀ v B H, Same B H → R v B H → Rc v B H) : Ev K te r Rc := fun B H s E Q k => h B H s E Q fun v B' H' x y => k v B' H' x (q v B' H' x.i y)
theorem EvD.toH (h : EvD K te r d) : EvH K te r d := h.imp fun _ _ _ i x => dp_mono i _ _ x
theorem EvD.toL (h : EvD K te r (.list ds)) : EvL K te r ds := h.imp fun v B H i x => by
  cases x with
  | lst hs ha => exact ⟨_, _, rfl, i.seq hs, ha⟩
theorem EvL.toQ (h : EvL K te r ds) : EvQ K te r ds := h.imp fun v B H i ⟨a, xs, h1, h2, h3⟩ => ⟨a, xs, h1, .inl h2, h3⟩
theorem EvL.toH (h : EvL K te r ds) : EvH K te r (.list ds) := h.imp fun v B H i ⟨a, xs, h1, h2, h3⟩ => by
  subst h1
  exact .lst h2 (dpa_mono i _ _ h3)
theorem EvD.toQ (h : EvD K te r (.tuple ds)) : EvQ K te r ds := h.imp fun v B H i x => by
  cases x with
  | tup hs ha => exact ⟨_, _, rfl, .inr (sqt_mono i hs), ha⟩
theorem EvN.toM (h : EvN K te r ds) : EvM K te r ds := fun B H s E Q k => h B H s E Q fun l xs B' H' x h1 h2 h3 h4 => k _ _ _ x ⟨l, xs, rfl, h2, h4⟩
theorem EvM.toL (h : EvM K te r ds) : EvL K te r ds := h.imp fun v B H i ⟨a, xs, h1, h2, h3⟩ => ⟨a, xs, h1, .of h2, h3⟩
theorem EvN.toD (h : EvN K te r ds) : EvD K te r (.list ds) := fun B H s E Q k => h B H s E Q fun l xs B' H' x h1 h2 h3 h4 => by
  have x' := x.take h1 h3 h2
  exact k _ _ _ x' (.lst (.of upd_same) (dpa_mono (same_new h3) _ _ h4))
theorem ev_im {n : Nat} (h : r[n]? = some (.im d)) : EvD K (tVar n) r d := fun B H s E Q k => by
  obtain ⟨v, h1, h2⟩ := E.im h
  exact ⟨v, h1, k v B H (.refl E.i) h2⟩
theorem ev_ow {n : Nat} (h : r[n]? = some (.ow ds)) : EvM K (tVar n) r ds := fun B H s E Q k => by
  obtain ⟨l, xs, h1, h2, h3, h4⟩ := E.ow h
  exact ⟨_, h1, k _ B H (.refl E.i) ⟨l, xs, rfl, h2, h3⟩⟩
theorem ev_int {i : Int} : EvD K (tC (.int i)) r (.int i) := fun B H s E Q k => k _ B H (.refl E.i) (.int i)
theorem ev_bl {b : Bool} : EvD K (tC (.bl b)) r (.bool b) := fun B H s E Q k => k _ B H (.refl E.i) (.bl b)
theorem ev_non : EvD K (tC .non) r .none := fun B H s E Q k => k _ B H (.refl E.i) .non
theorem ev_str {x : Str} : EvD K (tC (.str x)) r (.str x) := fun B H s E Q k => k _ B H (.refl E.i) (.str x)
/-- two operands, one operation on values -/
theorem ev_op {o : R2} (ma : Mono Ra) (ha : Ev K ta r Ra) (hb : Ev K tb r Rb) (ho : ∀ x y B H, Same B H → Ra x B H → Rb y B H → ∀ Q : VK, (∀ v B' H', Stp B H B' H' → Rc v B' H' → Q v H') → o x y H Q) : Ev K (tOp o ta tb) r Rc :=
  fun B H s E Q k => ha B H s E _ fun x B1 H1 x1 h1 => hb B1 H1 s (E.mono x1) _ fun y B2 H2 x2 h2 => ho x y B2 H2 x2.i (ma _ _ _ _ _ x2 h1) h2 Q fun v B3 H3 x3 h3 => k v B3 H3 ((x1.trans x2).trans x3) h3
/-- .. that leaves the heap as it is, giving flat data -/
theorem ev_flat {o : R2} (ma : Mono Ra) (ha : Ev K ta r Ra) (hb : Ev K tb r Rb) (ho : ∀ x y B H, Same B H → Ra x B H → Rb y B H → ∀ Q : VK, (∀ v, Dp K B v d → Q v H) → o x y H Q) : EvD K (tOp o ta tb) r d :=
  ev_op ma ha hb fun x y B H i h1 h2 Q k => ho x y B H i h1 h2 Q fun v h => k v B H (.refl i) h
theorem ev_un {o : V → Hp → VK → Prop} (ha : Ev K ta r Ra) (ho : ∀ x B H, Same B H → Ra x B H → ∀ Q : VK, (∀ v, Dp K B v d → Q v H) → o x H Q) : EvD K (tUn o ta) r d :=
  fun B H s E Q k => ha B H s E _ fun x B1 H1 x1 h1 => ho x B1 H1 x1.i h1 Q fun v h => k v B1 H1 x1 h
theorem ev_I0 {g : Int → Int → V} {i j : Int} (ha : EvD K ta r (.int i)) (hb : EvD K tb r (.int j)) (hg : ∀ B, Dp K B (g i j) d) : EvD K (tOp (rI0 g) ta tb) r d :=
  ev_flat mD ha hb fun x y B H _ h1 h2 Q k => by
    cases h1; cases h2
    exact ⟨i, j, rfl, rfl, k _ (hg B)⟩
theorem ev_I {C : Int → Int → Prop} {g : Int → Int → V} {i j : Int} (ha : EvD K ta r (.int i)) (hb : EvD K tb r (.int j)) (hc : C i j) (hg : ∀ B, Dp K B (g i j) d) : EvD K (tOp (rI C g) ta tb) r d :=
  ev_flat mD ha hb fun x y B H _ h1 h2 Q k => by
    cases h1; cases h2
    exact ⟨i, j, rfl, rfl, hc, k _ (hg B)⟩
/-! #### calls of built-ins, displays -/
theorem ea_nil : EvA K tNil r [] := fun B H s E Q k => k _ B H (.refl E.i) .nil
theorem ea_cons {t : TA} (ha : EvD K ta r d) (ht : EvA K t r ds) : EvA K (tCons ta t) r (d :: ds) := fun B H s E Q k =>
  ha B H s E _ fun x B1 H1 x1 h1 => ht B1 H1 s (E.mono x1) _ fun vs B2 H2 x2 h2 => k _ B2 H2 (x1.trans x2) (.cons (dp_mono x2.b _ _ h1) h2)
theorem ev_cb1 {o : List V → Hp → VK → Prop} (ha : Ev K ta r Ra) (ho : ∀ x B H, Same B H → Ra x B H → ∀ Q : VK, (∀ v B' H', Stp B H B' H' → Rc v B' H' → Q v H') → o [x] H Q) : Ev K (tCB o (tCons ta tNil)) r Rc :=
  fun B H s E Q k => ha B H s E _ fun x B1 H1 x1 h1 => ho x B1 H1 x1.i h1 Q fun v B2 H2 x2 h2 => k v B2 H2 (x1.trans x2) h2
theorem ev_cb1N {o : List V → Hp → VK → Prop} (ha : Ev K ta r Ra) (ho : ∀ x B H, Same B H → Ra x B H → ∀ Q : VK, (∀ l xs, H l = none → DpAll K B xs ds → Q (.ref l) (upd H l (.lst xs))) → o [x] H Q) : EvN K (tCB o (tCons ta tNil)) r ds :=
  fun B H s E Q k => ha B H s E _ fun x B1 H1 x1 h1 => ho x B1 H1 x1.i h1 Q fun l xs hl hd => k l xs B1 _ (x1.trans (.skip x1.i hl)) (x1.h.free hl) upd_same (x1.i.free hl) hd
theorem ev_cb2 {o : List V → Hp → VK → Prop} (ma : Mono Ra) (ha : Ev K ta r Ra) (hb : Ev K tb r Rb) (ho : ∀ x y B H, Same B H → Ra x B H → Rb y B H → ∀ Q : VK, (∀ v B' H', Stp B H B' H' → Rc v B' H' → Q v H') → o [x, y] H Q) : Ev K (tCB o (tCons ta (tCons tb tNil))) r Rc :=
  fun B H s E Q k => ha B H s E _ fun x B1 H1 x1 h1 => hb B1 H1 s (E.mono x1) _ fun y B2 H2 x2 h2 => ho x y B2 H2 x2.i (ma _ _ _ _ _ x2 h1) h2 Q fun v B3 H3 x3 h3 => k v B3 H3 ((x1.trans x2).trans x3) h3
theorem ev_len (ha : EvQ K ta r ds) : EvD K (tCB (fun xs H Q => ∃ p ys, xs = [V.ref p] ∧ (SqL K H p ys ∨ SqT K H p ys) ∧ Q (V.int ys.length) H) (tCons ta tNil)) r (.int ds.length) :=
  ev_cb1 ha fun x B H i ⟨a, xs, h1, h2, h3⟩ Q k => ⟨a, xs, by rw [h1], h2, k _ B H (.refl i) (by rw [dpa_len h3]; exact .int _)⟩
theorem ev_tupleL (ha : EvL K ta r ds) : EvD K (tCB (fun xs H Q => ∃ p ys, xs = [V.ref p] ∧ ((SqL K H p ys ∧ ∀ l, H l = none → Q (V.ref l) (upd H l (.tup ys))) ∨ (SqT K H p ys ∧ Q (V.ref p) H))) (tCons ta tNil)) r (.tuple ds) :=
  ev_cb1 ha fun x B H i ⟨a, xs, h1, h2, h3⟩ Q k => ⟨a, xs, by rw [h1], .inl ⟨h2, fun l hl => k _ _ _ (.new i hl) (.tup (.of upd_same) (dpa_mono (same_new (i.free hl)) _ _ h3))⟩⟩
theorem ev_list (ha : EvQ K ta r ds) : EvN K (tCB (fun xs H Q => ∃ p ys, xs = [V.ref p] ∧ (SqL K H p ys ∨ SqT K H p ys) ∧ ∀ l, H l = none → Q (V.ref l) (upd H l (.lst ys))) (tCons ta tNil)) r ds :=
  ev_cb1N ha fun x B H i ⟨a, xs, h1, h2, h3⟩ Q k => ⟨a, xs, by rw [h1], h2, fun l hl => k l xs hl h3⟩
theorem ev_tup {t : TA} (ht : EvA K t r ds) (hl : ds.length ≤ sizeLine) : EvD K (tTup t) r (.tuple ds) := fun B H s E Q k =>
  ht B H s E _ fun vs B1 H1 x1 h1 => ⟨by rw [dpa_len h1]; exact hl, fun p hp => k _ _ _ (x1.trans (.new x1.i hp)) (.tup (.of upd_same) (dpa_mono (same_new (x1.i.free hp)) _ _ h1))⟩
theorem ev_lst {t : TA} (ht : EvA K t r ds) (hl : ds.length ≤ sizeLine) : EvN K (tLst t) r ds := fun B H s E Q k =>
  ht B H s E _ fun vs B1 H1 x1 h1 => ⟨by rw [dpa_len h1]; exact hl, fun p hp => k p vs B1 _ (x1.trans (.skip x1.i hp)) (x1.h.free hp) upd_same (x1.i.free hp) h1⟩
theorem ev_min {ns : List Int} {m : Int} (ha : EvL K ta r (ns.map .int)) (hm : m ∈ ns) (hle : ∀ y ∈ ns, m ≤ y) : EvD K (tCB (rMin K) (tCons ta tNil)) r (.int m) :=
  ev_cb1 ha fun x B H i ⟨a, xs, h1, h2, h3⟩ Q k => ⟨a, ns, by rw [h1], by rw [← dpa_ints_inv h3]; exact h2, List.length_pos_of_mem hm, fun m' q1 q2 => by
    have : m' = m := Int.le_antisymm (q2 m hm) (hle m' q1)
    rw [this]
    exact k _ B H (.refl i) (.int _)⟩
theorem ev_all {bs : List Bool} (ha : EvL K ta r (bs.map .bool)) : EvD K (tCB (rAll K) (tCons ta tNil)) r (.bool (bs.all id)) :=
  ev_cb1 ha fun x B H i ⟨a, xs, h1, h2, h3⟩ Q k => ⟨a, bs, by rw [h1], by rw [← dpa_bls_inv h3]; exact h2, k _ B H (.refl i) (.bl _)⟩
theorem ev_min2 {i j : Int} (ha : EvD K ta r (.int i)) (hb : EvD K tb r (.int j)) : EvD K (tCB (fun xs H Q => ∃ i j, xs = [V.int i, V.int j] ∧ Q (V.int (if j < i then j else i)) H) (tCons ta (tCons tb tNil))) r (.int (if j < i then j else i)) :=
  ev_cb2 mD ha hb fun x y B H z h1 h2 Q k => by
    cases h1; cases h2
    exact ⟨i, j, rfl, k _ B H (.refl z) (.int _)⟩
theorem ev_max2 {i j : Int} (ha : EvD K ta r (.int i)) (hb : EvD K tb r (.int j)) : EvD K (tCB (fun xs H Q => ∃ i j, xs = [V.int i, V.int j] ∧ Q (V.int (if j > i then j else i)) H) (tCons ta (tCons tb tNil))) r (.int (if j > i then j else i)) :=
  ev_cb2 mD ha hb fun x y B H z h1 h2 Q k => by
    cases h1; cases h2
    exact ⟨i, j, rfl, k _ B H (.refl z) (.int _)⟩
theorem ev_int1b {b : Bool} (ha : EvD K ta r (.bool b)) : EvD K (tCB (fun xs H Q => (∃ i, xs = [V.int i] ∧ Q (V.int i) H) ∨ ∃ k, xs = [V.bl k] ∧ Q (V.int (if k then 1 else 0)) H) (tCons ta tNil)) r (.int (if b then 1 else 0)) :=
  ev_cb1 ha fun x B H i h1 Q k => by
    cases h1
    exact .inr ⟨b, rfl, k _ B H (.refl i) (.int _)⟩
/-! #### operations -/
theorem ev_eq (ha : EvH K ta r d) (hb : EvH K tb r e) (sd : SeqAt.shaped d = true) (se : SeqAt.shaped e = true) : EvD K (tOp (rEqD K) ta tb) r (.bool (PyData.eqv d e)) :=
  ev_flat mH ha hb fun x y B H i h1 h2 Q k => ⟨d, e, h1, h2, sd, se, k _ (.bl _)⟩
theorem ev_ne (ha : EvH K ta r d) (hb : EvH K tb r e) (sd : SeqAt.shaped d = true) (se : SeqAt.shaped e = true) : EvD K (tOp (rNeD K) ta tb) r (.bool (!PyData.eqv d e)) :=
  ev_flat mH ha hb fun x y B H i h1 h2 Q k => ⟨d, e, h1, h2, sd, se, k _ (.bl _)⟩
theorem inV_ints {i : Int} : ∀ ns : List Int, inV (.int i) (ns.map V.int) = decide (i ∈ ns)
  | [] => by simp [inV]
  | n :: ns => by
    have ih := inV_ints (i := i) ns
    unfold inV at ih ⊢
    rw [List.map_cons, List.any_cons, ih]
    have : eqV (V.int n) (V.int i) = decide (i = n) := by
      by_cases h : i = n
      · subst h; simp [eqV]
      · have h2 : n ≠ i := fun z => h z.symm
        simp [eqV, h, h2]
    rw [this]
    by_cases h : i = n <;> simp [h]
theorem flat_ints : ∀ ns : List Int, (ns.map V.int).all flatV = true
  | [] => rfl
  | n :: ns => by rw [List.map_cons, List.all_cons, flat_ints ns]; rfl
theorem ev_in {i : Int} {ns : List Int} (ha : EvD K ta r (.int i)) (hb : EvQ K tb r (ns.map .int)) : EvD K (tOp (rIn K false) ta tb) r (.bool (decide (i ∈ ns))) :=
  ev_flat mD ha hb fun x y B H z h1 ⟨a, xs, q1, q2, q3⟩ Q k => by
    cases h1
    have e := dpa_ints_inv q3
    subst e
    exact ⟨a, _, q1, q2, rfl, flat_ints ns, k _ (by rw [inV_ints]; exact .bl _)⟩
theorem ev_nin {i : Int} {ns : List Int} (ha : EvD K ta r (.int i)) (hb : EvQ K tb r (ns.map .int)) : EvD K (tOp (rIn K true) ta tb) r (.bool (!decide (i ∈ ns))) :=
  ev_flat mD ha hb fun x y B H z h1 ⟨a, xs, q1, q2, q3⟩ Q k => by
    cases h1
    have e := dpa_ints_inv q3
    subst e
    exact ⟨a, _, q1, q2, rfl, flat_ints ns, k _ (by rw [inV_ints]; exact .bl _)⟩
theorem dpa_at {H : Hp} {xs : List V} {i : Int} (h : DpAll K H xs ds) (ha : atI ds i = some d) : ∃ v, atI xs i = some v ∧ Dp K H v d := by
  unfold atI at ha ⊢
  rw [dpa_len h]
  cases q : ixN ds.length i with
  | none => rw [q] at ha; cases ha
  | some j =>
    rw [q] at ha
    exact dpa_get h ha
theorem ev_ixL {i : Int} (ha : EvL K ta r ds) (hb : EvD K tb r (.int i)) (hi : atI ds i = some d) : EvD K (tOp (rIxL K) ta tb) r d :=
  ev_flat mL ha hb fun x y B H z ⟨a, xs, q1, q2, q3⟩ h2 Q k => by
    cases h2
    obtain ⟨v, h3, h4⟩ := dpa_at q3 hi
    exact ⟨a, xs, i, v, q1, rfl, q2, h3, k _ h4⟩
theorem ev_ixT {i : Int} (ha : EvD K ta r (.tuple ds)) (hb : EvD K tb r (.int i)) (hi : atI ds i = some d) : EvD K (tOp (rIxT K) ta tb) r d :=
  ev_flat mD ha hb fun x y B H z h1 h2 Q k => by
    cases h2
    cases h1 with
    | tup q2 q3 =>
      obtain ⟨v, h3, h4⟩ := dpa_at q3 hi
      exact ⟨_, _, i, v, rfl, rfl, sqt_mono z q2, h3, k _ h4⟩
theorem dpa_nil_iff {H : Hp} {xs : List V} (h : DpAll K H xs ds) : xs = [] ↔ ds = [] := by
  cases h with
  | nil => exact ⟨fun _ => rfl, fun _ => rfl⟩
  | cons _ _ => exact ⟨fun z => (nomatch z), fun z => (nomatch z)⟩
theorem ev_catT (ha : EvD K ta r (.tuple ds)) (hb : EvD K tb r (.tuple es)) (hl : ds.length + es.length ≤ sizeLine) : EvD K (tOp (rCatA K) ta tb) r (.tuple (ds ++ es)) :=
  ev_op mD ha hb fun x y B H z h1 h2 Q k => by
    cases h1 with
    | tup q2 q3 =>
      cases h2 with
      | tup p2 p3 =>
        refine ⟨_, _, _, _, rfl, rfl, sqt_mono z q2, sqt_mono z p2, by rw [dpa_len q3, dpa_len p3]; exact hl, fun e => ?_, fun _ e => ?_, fun _ _ p hp => ?_⟩
        · refine k _ B H (.refl z) ?_
          rw [(dpa_nil_iff q3).mp e, List.nil_append]
          exact .tup p2 p3
        · refine k _ B H (.refl z) ?_
          rw [(dpa_nil_iff p3).mp e, List.append_nil]
          exact .tup q2 q3
        · exact k _ _ _ (.new z hp) (.tup (.of upd_same) (dpa_mono (same_new (z.free hp)) _ _ (dpa_app q3 p3)))
theorem ev_catL (ha : EvM K ta r ds) (hb : EvM K tb r es) (hl : ds.length + es.length ≤ sizeLine) : EvN K (tOp rCat ta tb) r (ds ++ es) := fun B H s E Q k =>
  ha B H s E _ fun x B1 H1 x1 h1 => hb B1 H1 s (E.mono x1) _ fun y B2 H2 x2 h2 => by
    obtain ⟨a, xs, rfl, q2, q3⟩ := mM _ _ _ _ _ x2 h1
    obtain ⟨b, ys, rfl, p2, p3⟩ := h2
    exact ⟨a, b, xs, ys, rfl, rfl, q2, p2, by rw [dpa_len q3, dpa_len p3]; exact hl, fun p hp => k p _ B2 _ ((x1.trans x2).trans (.skip x2.i hp)) ((x1.trans x2).h.free hp) upd_same (x2.i.free hp) (dpa_app q3 p3)⟩
/-- a part of a list, as cutV takes it -/
def cutD (xs : List PyData) (lo hi : Option Int) : List PyData := (xs.drop (HT.sIx xs.length 0 lo)).take (HT.sIx xs.length xs.length hi - HT.sIx xs.length 0 lo)
theorem dpa_cut {H : Hp} {xs : List V} {lo hi : Option Int} (h : DpAll K H xs ds) : DpAll K H (cutV xs lo hi) (cutD ds lo hi) := by
  unfold cutV cutD
  rw [dpa_len h]
  exact dpa_take _ (dpa_drop _ h)
/-- a slice's part -/
def EvO (K : PySem.W.Frag) (to : TO) (r : Rho) (o : Option Int) : Prop := ∀ B H s, EnvR K B H s r → ∀ Q : Option Int → Hp → Prop, (∀ B' H', Stp B H B' H' → Q o H') → to s H Q
theorem eo_none : EvO K tNoPart r none := fun B H s E Q k => k B H (.refl E.i)
theorem eo_some {i : Int} (h : EvD K te r (.int i)) : EvO K (tPart te) r (some i) := fun B H s E Q k => h B H s E _ fun v B1 H1 x1 h1 => by
  cases h1
  exact ⟨i, rfl, k B1 H1 x1⟩
theorem ev_slT {tl th : TO} {lo hi : Option Int} (ha : EvD K ta r (.tuple ds)) (hl : EvO K tl r lo) (hh : EvO K th r hi) : EvD K (tSl (rSlA K) ta tl th) r (.tuple (cutD ds lo hi)) := fun B H s E Q k =>
  ha B H s E _ fun x B1 H1 x1 h1 => hl B1 H1 s (E.mono x1) _ fun B2 H2 x2 => hh B2 H2 s (E.mono (x1.trans x2)) _ fun B3 H3 x3 => by
    have x := (x1.trans x2).trans x3
    cases h1 with
    | tup q2 q3 =>
      have q3' := dpa_mono (x2.trans x3).b _ _ q3
      have q2' := sqt_mono (x2.trans x3).b q2
      refine ⟨_, _, rfl, sqt_mono x3.i q2', fun e => ?_, fun _ p hp => ?_⟩
      · refine k _ B3 H3 x ?_
        have : cutD ds lo hi = ds := by
          unfold cutD
          rw [dpa_len q3] at e
          rw [e.1, e.2, List.drop_zero, Nat.sub_zero, List.take_length]
        rw [this]
        exact .tup q2' q3'
      · exact k _ _ _ (x.trans (.new x3.i hp)) (.tup (.of upd_same) (dpa_mono (same_new (x3.i.free hp)) _ _ (dpa_cut q3')))
theorem ev_slL {tl th : TO} {lo hi : Option Int} (ha : EvL K ta r ds) (hl : EvO K tl r lo) (hh : EvO K th r hi) : EvN K (tSl (rSlL K) ta tl th) r (cutD ds lo hi) := fun B H s E Q k =>
  ha B H s E _ fun x B1 H1 x1 h1 => hl B1 H1 s (E.mono x1) _ fun B2 H2 x2 => hh B2 H2 s (E.mono (x1.trans x2)) _ fun B3 H3 x3 => by
    have x := (x1.trans x2).trans x3
    obtain ⟨a, xs, rfl, q2, q3⟩ := mL _ _ _ _ _ (x2.trans x3) h1
    exact ⟨a, xs, rfl, q2, fun p hp => k p _ B3 _ (x.trans (.skip x3.i hp)) (x.h.free hp) upd_same (x3.i.free hp) (dpa_cut q3)⟩
/-! #### tests -/
theorem et_test {b : Bool} (h : EvD K te r (.bool b)) : EvT K (tTest te) r b := fun B H s E Q k => h B H s E _ fun v B1 H1 x1 h1 => by
  cases h1
  exact ⟨b, rfl, k B1 H1 x1⟩
theorem et_B {b : Bool} (h : EvD K te r (.bool b)) : EvT K (tB te) r b := fun B H s E Q k => h B H s E _ fun v B1 H1 x1 h1 => by
  cases h1
  exact ⟨b, rfl, k B1 H1 x1⟩
theorem et_truth (h : EvQ K te r ds) : EvT K (fun σ H Q => te σ H fun x H' => ∃ k, TruV K x H' k ∧ Q k H') r (!ds.isEmpty) := fun B H s E Q k => h B H s E _ fun v B1 H1 x1 ⟨a, xs, h1, h2, h3⟩ => by
  subst h1
  have e : xs.isEmpty = ds.isEmpty := by cases h3 <;> rfl
  refine ⟨!ds.isEmpty, ?_, k B1 H1 x1⟩
  rcases h2 with h2 | h2
  · exact .inl ⟨xs, h2, by rw [e]⟩
  · exact .inr (.inl ⟨xs, h2, by rw [e]⟩)
theorem et_not {t : TT} {b : Bool} (h : EvT K t r b) : EvT K (tNot t) r (!b) := fun B H s E Q k => h B H s E _ fun B1 H1 x1 => k B1 H1 x1
theorem et_and {t u : TT} {a b : Bool} (h1 : EvT K t r a) (h2 : a = true → EvT K u r b) : EvT K (tAnd t u) r (a && b) := fun B H s E Q k => h1 B H s E _ fun B1 H1 x1 => by
  cases a with
  | true => exact h2 rfl B1 H1 s (E.mono x1) _ fun B2 H2 x2 => k B2 H2 (x1.trans x2)
  | false => exact k B1 H1 x1
theorem et_or {t u : TT} {a b : Bool} (h1 : EvT K t r a) (h2 : a = false → EvT K u r b) : EvT K (tOr t u) r (a || b) := fun B H s E Q k => h1 B H s E _ fun B1 H1 x1 => by
  cases a with
  | true => exact k B1 H1 x1
  | false => exact h2 rfl B1 H1 s (E.mono x1) _ fun B2 H2 x2 => k B2 H2 (x1.trans x2)
theorem et_is {t : TT} {a b : Bool} (h : EvT K t r a) (e : a = b) : EvT K t r b := e ▸ h
theorem ev_is (h : EvD K te r d) (q : d = e) : EvD K te r e := q ▸ h
theorem ev_andV {a b : Bool} (h1 : EvD K ta r (.bool a)) (h2 : a = true → EvD K tb r (.bool b)) : EvD K (tAndV ta tb) r (.bool (a && b)) := fun B H s E Q k => h1 B H s E _ fun v B1 H1 x1 q1 => by
  cases q1
  refine ⟨a, rfl, ?_⟩
  cases a with
  | true => exact h2 rfl B1 H1 s (E.mono x1) _ fun v B2 H2 x2 q2 => k v B2 H2 (x1.trans x2) q2
  | false => exact k _ B1 H1 x1 (.bl false)
theorem ev_orV {a b : Bool} (h1 : EvD K ta r (.bool a)) (h2 : a = false → EvD K tb r (.bool b)) : EvD K (tOrV ta tb) r (.bool (a || b)) := fun B H s E Q k => h1 B H s E _ fun v B1 H1 x1 q1 => by
  cases q1
  refine ⟨a, rfl, ?_⟩
  cases a with
  | true => exact k _ B1 H1 x1 (.bl true)
  | false => exact h2 rfl B1 H1 s (E.mono x1) _ fun v B2 H2 x2 q2 => k v B2 H2 (x1.trans x2) q2
theorem ev_notV {a : Bool} (h1 : EvD K ta r (.bool a)) : EvD K (tNotV ta) r (.bool (!a)) := fun B H s E Q k => h1 B H s E _ fun v B1 H1 x1 q1 => by
  cases q1
  exact ⟨a, rfl, k _ B1 H1 x1 (.bl _)⟩
/-! #### a def's promise: F tells its value -/
def spR (K : PySem.W.Frag) (F : List PyData → PyData → Prop) : Sp := fun vs H Q _ => ∃ B ds d, Same B H ∧ DpAll K B vs ds ∧ F ds d ∧ ∀ v B' H', Stp B H B' H' → Dp K B' v d → Q v H'
theorem ev_call {F : List PyData → PyData → Prop} {X : XK} {t : TA} (ht : EvA K t r ds) (hF : F ds d) : EvD K (tCall (spR K F) [] X t) r d := fun B H s E Q k =>
  ht B H s E _ fun vs B1 H1 x1 h1 => ⟨B1, ds, d, x1.i, by rw [List.append_nil]; exact h1, hF, fun v B2 H2 x2 h2 => k v B2 H2 (x1.trans x2) h2⟩
/-- .. of a def that may be refused: F its value, or R: the error of the class at C -/
def spX (K : PySem.W.Frag) (C : Addr) (F : List PyData → PyData → Prop) (R : List PyData → Prop) : Sp := fun vs H Q X => ∃ B ds, Same B H ∧ DpAll K B vs ds ∧
  ((∃ d, F ds d ∧ ∀ v B' H', Stp B H B' H' → Dp K B' v d → Q v H') ∨ (R ds ∧ ∀ H', Same H H' → X (.ref C) none H'))
theorem ev_callX {F : List PyData → PyData → Prop} {R : List PyData → Prop} {C : Addr} {X : XK} {t : TA} (ht : EvA K t r ds) (hF : F ds d) : EvD K (tCall (spX K C F R) [] X t) r d := fun B H s E Q k =>
  ht B H s E _ fun vs B1 H1 x1 h1 => ⟨B1, ds, x1.i, by rw [List.append_nil]; exact h1, .inl ⟨d, hF, fun v B2 H2 x2 h2 => k v B2 H2 (x1.trans x2) h2⟩⟩
end
end Od

namespace Od
open PySem PySem.Spec PyProof.Rows L2

/-! ### statements -/
structure EnvS (K : PySem.W.Frag) (B0 H0 B H : Hp) (s : L2.St) (r : Rho) : Prop where
  st : Stp B0 H0 B H
  en : EnvR K B H s r
  ow : ∀ {n : Nat} {ds : List PyData} {l : Addr}, r[n]? = some (.ow ds) → s[n]? = some (some (.ref l)) → H0 l = none
/-- what is wanted behind a statement -/
structure EndD where
  nx : Rho → Prop
  rt : PyData → Prop
  bk : Rho → Prop := fun _ => False
  ct : Rho → Prop := fun _ => False
structure Sat (K : PySem.W.Frag) (B0 H0 : Hp) (W : EndD) (D : Ends) : Prop where
  nx : ∀ r B H s, W.nx r → EnvS K B0 H0 B H s r → D.nx s H
  rt : ∀ d v B H, W.rt d → Stp B0 H0 B H → Dp K B v d → D.rt v H
  bk : ∀ r B H s, W.bk r → EnvS K B0 H0 B H s r → D.bk s H
  ct : ∀ r B H s, W.ct r → EnvS K B0 H0 B H s r → D.ct s H
def WP (K : PySem.W.Frag) (H0 : Hp) (ts : TS) (r : Rho) (W : EndD) : Prop := ∀ B0 B H s D, EnvS K B0 H0 B H s r → Sat K B0 H0 W D → ts D s H
section
variable {K : PySem.W.Frag} {H0 : Hp} {r : Rho} {d e f : PyData} {ds es : List PyData} {te ta tb tc : TE} {t u : TS} {W : EndD}
theorem EnvS.mono {B0 B H B' H' : Hp} {s : L2.St} (e : EnvS K B0 H0 B H s r) (x : Stp B H B' H') : EnvS K B0 H0 B' H' s r := ⟨e.st.trans x, e.en.mono x, e.ow⟩
theorem EnvS.set_im {B0 B H : Hp} {s : L2.St} (e : EnvS K B0 H0 B H s r) {n : Nat} {v : V} (h : Dp K B v d) : EnvS K B0 H0 B H (s.set n (some v)) (r.set n (.im d)) := ⟨e.st, e.en.set_im h, fun {m ds l} h1 h2 => by
  rcases get_set h1 with ⟨_, z, _⟩ | ⟨a1, a2⟩
  · cases z
  rw [List.getElem?_set_ne (fun z => a1 z.symm)] at h2
  exact e.ow a2 h2⟩
theorem EnvS.set_ow {B0 B H B' H' : Hp} {s : L2.St} (e : EnvS K B0 H0 B H s r) (x : Stp B H B' H') {n : Nat} {l : Addr} {xs : List V} (hn : H l = none) (hl : H' l = some (.lst xs)) (hb : B' l = none) (hd : DpAll K B' xs ds) :
    EnvS K B0 H0 B' H' (s.set n (some (.ref l))) (r.set n (.ow ds)) := ⟨e.st.trans x, e.en.set_ow x hn hl hb hd, fun {m es l'} h1 h2 => by
  rcases get_set h1 with ⟨rfl, z, a2⟩ | ⟨a1, a2⟩
  · rw [List.getElem?_set_self (by rw [e.en.len]; exact a2)] at h2
    cases h2
    exact e.st.h.free hn
  rw [List.getElem?_set_ne (fun z => a1 z.symm)] at h2
  exact e.ow a2 h2⟩
theorem EnvS.mut {B0 B H : Hp} {s : L2.St} (e : EnvS K B0 H0 B H s r) {n : Nat} {l : Addr} {xs : List V} {ds ds' : List PyData} (hr : r[n]? = some (.ow ds)) (hs : s[n]? = some (some (.ref l))) (hd : DpAll K B xs ds') :
    EnvS K B0 H0 B (upd H l (.lst xs)) s (r.set n (.ow ds')) := by
  obtain ⟨l', ys, q1, _, _, q4⟩ := e.en.ow hr
  rw [hs] at q1; cases q1
  refine ⟨e.st.mut (e.ow hr hs) q4, e.en.mut hr hs hd, fun {m es l'} h1 h2 => ?_⟩
  rcases get_set h1 with ⟨rfl, z, a2⟩ | ⟨a1, a2⟩
  · exact e.ow hr h2
  · exact e.ow a2 h2
theorem WP.imp {W' : EndD} (h : WP K H0 t r W) (h1 : ∀ r, W.nx r → W'.nx r) (h2 : ∀ d, W.rt d → W'.rt d) (h3 : ∀ r, W.bk r → W'.bk r) (h4 : ∀ r, W.ct r → W'.ct r) : WP K H0 t r W' := fun B0 B H s D E S =>
  h B0 B H s D E ⟨fun r B H s q => S.nx r B H s (h1 r q), fun d v B H q => S.rt d v B H (h2 d q), fun r B H s q => S.bk r B H s (h3 r q), fun r B H s q => S.ct r B H s (h4 r q)⟩
theorem wp_seq (h : WP K H0 t r { W with nx := fun r' => WP K H0 u r' W }) : WP K H0 (tSeq t u) r W := fun B0 B H s D E S =>
  h B0 B H s { D with nx := u D } E ⟨fun r' B' H' s' q E' => q B0 B' H' s' D E' S, S.rt, S.bk, S.ct⟩
theorem wp_is {r' : Rho} (h : WP K H0 t r' W) (e : r' = r) : WP K H0 t r W := e ▸ h
theorem wp_next (h : W.nx r) : WP K H0 tNext r W := fun B0 B H s D E S => S.nx r B H s h E
theorem wp_brk (h : W.bk r) : WP K H0 tBreak r W := fun B0 B H s D E S => S.bk r B H s h E
theorem wp_cont (h : W.ct r) : WP K H0 tCont r W := fun B0 B H s D E S => S.ct r B H s h E
theorem wp_ret (h : EvD K te r d) (q : W.rt d) : WP K H0 (tRet te) r W := fun B0 B H s D E S =>
  h B H s E.en _ fun v B' H' x hv => S.rt d v B' H' q (E.st.trans x) hv
theorem wp_if {c : TT} {b : Bool} (h : EvT K c r b) (h1 : b = true → WP K H0 t r W) (h2 : b = false → WP K H0 u r W) : WP K H0 (tIfS c t u) r W := fun B0 B H s D E S =>
  h B H s E.en _ fun B' H' x => by
    cases b with
    | true => exact h1 rfl B0 B' H' s D (E.mono x) S
    | false => exact h2 rfl B0 B' H' s D (E.mono x) S
/-- both ways lead to r2 -/
theorem wp_join {c : TT} {b : Bool} (r2 : Rho) (h : EvT K c r b) (h1 : b = true → WP K H0 t r { W with nx := fun x => x = r2 }) (h2 : b = false → WP K H0 u r { W with nx := fun x => x = r2 }) (q : W.nx r2) : WP K H0 (tIfS c t u) r W :=
  wp_if h (fun e => (h1 e).imp (fun _ z => z ▸ q) (fun _ z => z) (fun _ z => z) (fun _ z => z)) (fun e => (h2 e).imp (fun _ z => z ▸ q) (fun _ z => z) (fun _ z => z) (fun _ z => z))
/-- a target takes a value -/
def GS (K : PySem.W.Frag) (g : TG) (d : PyData) (r r2 : Rho) : Prop := ∀ v B0 H0 B H s, EnvS K B0 H0 B H s r → Dp K B v d → ∀ Q : L2.St → Hp → Prop, (∀ s2, EnvS K B0 H0 B H s2 r2 → Q s2 H) → g v s H Q
theorem gs_name {i : Nat} : GS K (gName i) d r (r.set i (.im d)) := fun v B0 H0 B H s E h Q k => k _ (E.set_im h)
theorem gs_tup2 {i j : Nat} : GS K (gTup K 2 (gCons (gName i) (gCons (gName j) gNil))) (.tuple [d, e]) r ((r.set i (.im d)).set j (.im e)) := fun v B0 H0 B H s E h Q k => by
  cases h with
  | tup q2 q3 =>
    cases q3 with
    | cons a1 q3 =>
      cases q3 with
      | cons a2 q3 =>
        cases q3
        exact ⟨_, _, rfl, sqt_mono E.en.i q2, rfl, _, _, rfl, _, _, rfl, rfl, k _ ((E.set_im a1).set_im a2)⟩
theorem wp_asg {g : TG} {r2 : Rho} (h : EvD K te r d) (hg : GS K g d r r2) (q : W.nx r2) : WP K H0 (tAsg te g) r W := fun B0 B H s D E S =>
  h B H s E.en _ fun v B' H' x hv => hg v B0 H0 B' H' s (E.mono x) hv _ fun s2 E2 => S.nx r2 B' H' s2 q E2
theorem wp_set {i : Nat} (h : EvD K te r d) (q : W.nx (r.set i (.im d))) : WP K H0 (tAsg te (gName i)) r W := wp_asg h gs_name q
/-- name = a new list, the name's own -/
theorem wp_setN {i : Nat} (h : EvN K te r ds) (q : W.nx (r.set i (.ow ds))) : WP K H0 (tAsg te (gName i)) r W := fun B0 B H s D E S =>
  h B H s E.en _ fun l xs B' H' x h1 h2 h3 h4 => S.nx _ B' H' _ q (E.set_ow x h1 h2 h3 h4)
theorem wp_append {n : Nat} (hr : r[n]? = some (.ow ds)) (h : EvD K te r d) (hz : ds.length < sizeLine) (q : W.nx (r.set n (.ow (ds ++ [d])))) :
    WP K H0 (tDrop (tBM K "list" rAppend (tVar n) (tCons te tNil))) r W := fun B0 B H s D E S => by
  obtain ⟨l, xs, h1, h2, h3, h4⟩ := E.en.ow hr
  refine ⟨.ref l, h1, .inl ⟨rfl, xs, .of h2⟩, h B H s E.en _ fun v B' H' x hv => ?_⟩
  have E' := E.mono x
  have h3' := dpa_mono x.b _ _ h3
  exact ⟨l, xs, v, rfl, rfl, x.h _ _ h2, by rw [dpa_len h3]; exact hz, S.nx _ B' _ s q (E'.mut hr h1 (dpa_app h3' (.cons hv .nil)))⟩
theorem wp_setitem {n j : Nat} {k : Int} {ti : TE} (hr : r[n]? = some (.ow ds)) (h : EvD K te r d) (hi : EvD K ti r (.int k)) (hk : ixN ds.length k = some j) (q : W.nx (r.set n (.ow (ds.set j d)))) :
    WP K H0 (tAsg te (gSub (tVar n) ti rSetL)) r W := fun B0 B H s D E S =>
  h B H s E.en _ fun v B1 H1 x1 hv => by
    obtain ⟨l, xs, h1, h2, h3, h4⟩ := (E.mono x1).en.ow hr
    refine ⟨.ref l, h1, hi B1 H1 s (E.mono x1).en _ fun w B2 H2 x2 hw => ?_⟩
    cases hw
    have h3' := dpa_mono x2.b _ _ h3
    exact ⟨l, xs, k, j, rfl, rfl, x2.h _ _ h2, by rw [dpa_len h3]; exact hk, S.nx _ B2 _ s q (((E.mono x1).mono x2).mut hr h1 (dpa_set (dp_mono x2.b _ _ hv) j h3'))⟩
/-- an own list is given to what follows as data -/
theorem wp_free {n : Nat} (hr : r[n]? = some (.ow ds)) (h : WP K H0 t (r.set n (.im (.list ds))) W) : WP K H0 t r W := fun B0 B H s D E S => by
  obtain ⟨l, xs, h1, h2, h3, h4⟩ := E.en.ow hr
  refine h B0 (upd B l (.lst xs)) H s D ⟨E.st.take (E.ow hr h1) h4 h2, ?_, fun {m es l'} q1 q2 => ?_⟩ S
  · have hn : n < r.length := (List.getElem?_eq_some_iff.mp hr).1
    refine ⟨fun a o e => ?_, by rw [List.length_set]; exact E.en.len, fun {m d'} h' => ?_, fun {m es} h' => ?_, fun {n1 n2 d1 d2 l'} q1 q2 q3 q4 => ?_⟩
    · by_cases z : a = l
      · subst z; rw [upd_same] at e; cases e; exact h2
      · rw [upd_ne z] at e; exact E.en.i _ _ e
    · rcases get_set h' with ⟨rfl, e1, e2⟩ | ⟨e1, e2⟩
      · cases e1
        exact ⟨_, h1, .lst (.of upd_same) (dpa_mono (same_new h4) _ _ h3)⟩
      · obtain ⟨w, p1, p2⟩ := E.en.im e2
        exact ⟨w, p1, dp_mono (same_new h4) _ _ p2⟩
    · rcases get_set h' with ⟨rfl, e1, e2⟩ | ⟨e1, e2⟩
      · cases e1
      · obtain ⟨l', ys, p1, p2, p3, p4⟩ := E.en.ow e2
        have : l' ≠ l := fun z => e1 (E.en.ne e2 hr p1 (by rw [z]; exact h1))
        exact ⟨l', ys, p1, p2, dpa_mono (same_new h4) _ _ p3, by rw [upd_ne this]; exact p4⟩
    · rcases get_set q1 with ⟨_, z, _⟩ | ⟨a1, a2⟩
      · cases z
      rcases get_set q2 with ⟨_, z, _⟩ | ⟨b1, b2⟩
      · cases z
      exact E.en.ne a2 b2 q3 q4
  · rcases get_set q1 with ⟨_, z, _⟩ | ⟨a1, a2⟩
    · cases z
    exact E.ow a2 q2

/-! ### loops -/
/-- what a loop walks, as data -/
structure Walks (K : PySem.W.Frag) (J : It) (B0 : Hp) (xs : List PyData) : Prop where
  go : ∀ i B H, Same B0 B → Same B H → i < xs.length → J.go i H
  yld : ∀ i B H x H', Same B0 B → Same B H → J.yld i H x H' → i < xs.length → ∃ d B', xs[i]? = some d ∧ Stp B H B' H' ∧ Dp K B' x d
  stop : ∀ B H, Same B0 B → Same B H → J.stop xs.length H
def EvI (K : PySem.W.Frag) (wi : TI) (r : Rho) (xs : List PyData) : Prop := ∀ B H s, EnvR K B H s r → ∀ R : It → Hp → Prop, (∀ J B' H', Stp B H B' H' → Walks K J B' xs → R J H') → wi s H R
theorem ei_tup (h : EvD K te r (.tuple ds)) : EvI K (iTup K te) r ds := fun B H s E R k => h B H s E _ fun v B1 H1 x1 hv => by
  cases hv with
  | @tup a xs _ q2 q3 =>
    refine ⟨a, rfl, ⟨xs, sqt_mono x1.i q2⟩, k _ B1 H1 x1 ⟨fun i B' H' e1 e2 hi => ?_, fun i B' H' x H'' e1 e2 y hi => ?_, fun B' H' e1 e2 => ⟨xs, sqt_mono (e1.trans e2) q2, by rw [dpa_len q3]; exact Nat.le_refl _⟩⟩⟩
    · obtain ⟨v, p1, p2⟩ := dpa_get q3 (List.getElem?_eq_getElem hi)
      exact ⟨xs, v, sqt_mono (e1.trans e2) q2, p1⟩
    · obtain ⟨rfl, y⟩ := y
      obtain ⟨v, p1, p2⟩ := dpa_get q3 (List.getElem?_eq_getElem hi)
      have := y xs (sqt_mono (e1.trans e2) q2)
      rw [p1] at this
      cases this
      exact ⟨_, B', List.getElem?_eq_getElem hi, .refl e2, dp_mono e1 _ _ p2⟩
theorem ei_list (h : EvD K te r (.list ds)) : EvI K (iList K te) r ds := fun B H s E R k => h B H s E _ fun v B1 H1 x1 hv => by
  cases hv with
  | @lst a xs _ q2 q3 =>
    refine ⟨a, rfl, ⟨xs, x1.i.seq q2⟩, k _ B1 H1 x1 ⟨fun i B' H' e1 e2 hi => ?_, fun i B' H' x H'' e1 e2 y hi => ?_, fun B' H' e1 e2 => ⟨xs, (e1.trans e2).seq q2, by rw [dpa_len q3]; exact Nat.le_refl _⟩⟩⟩
    · obtain ⟨v, p1, p2⟩ := dpa_get q3 (List.getElem?_eq_getElem hi)
      exact ⟨xs, v, (e1.trans e2).seq q2, p1⟩
    · obtain ⟨rfl, y⟩ := y
      obtain ⟨v, p1, p2⟩ := dpa_get q3 (List.getElem?_eq_getElem hi)
      have := y xs ((e1.trans e2).seq q2)
      rw [p1] at this
      cases this
      exact ⟨_, B', List.getElem?_eq_getElem hi, .refl e2, dp_mono e1 _ _ p2⟩
/-- lo, lo + 1, .., n of them -/
def irange (lo : Int) (n : Nat) : List Int := (List.range n).map fun (i : Nat) => lo + (i : Int)
theorem irange_len {lo : Int} {n : Nat} : (irange lo n).length = n := by unfold irange; rw [List.length_map, List.length_range]
theorem irange_get {lo : Int} {n i : Nat} (h : i < n) : (irange lo n)[i]? = some (lo + (i : Int)) := by
  unfold irange
  rw [List.getElem?_map, List.getElem?_range h]; rfl
theorem irange_mem {lo : Int} {n : Nat} {x : Int} : x ∈ irange lo n ↔ lo ≤ x ∧ x < lo + (n : Int) := by
  unfold irange
  rw [List.mem_map]
  constructor
  · rintro ⟨i, hi, rfl⟩
    have := List.mem_range.mp hi
    omega
  · rintro ⟨h1, h2⟩
    exact ⟨(x - lo).toNat, List.mem_range.mpr (by omega), by omega⟩
theorem walks_rng {lo : Int} {n : Nat} {B : Hp} : Walks K (Itr lo n) B ((irange lo n).map .int) where
  go := fun i B' H e1 e2 hi => by rw [List.length_map, irange_len] at hi; exact hi
  yld := fun i B' H x H' e1 e2 y hi => by
    rw [List.length_map, irange_len] at hi
    obtain ⟨rfl, rfl⟩ := y
    exact ⟨.int (lo + i), B', by rw [List.getElem?_map, irange_get hi]; rfl, .refl e2, .int _⟩
  stop := fun B' H e1 e2 => by rw [List.length_map, irange_len]; exact Nat.le_refl n
theorem ei_rng1 {ta : TA} {j : Int} (h : EvA K ta r [.int j]) (h1 : -(2 ^ 62) ≤ j) (h2 : j < 2 ^ 62) : EvI K (iRng1 ta) r ((irange 0 j.toNat).map .int) := fun B H s E R k => h B H s E _ fun vs B1 H1 x1 hv => by
  cases hv with
  | cons a b =>
    cases a; cases b
    exact ⟨j, rfl, h1, h2, k _ B1 H1 x1 walks_rng⟩
theorem ei_rng2 {ta : TA} {i j : Int} (h : EvA K ta r [.int i, .int j]) (h1 : -(2 ^ 62) ≤ i) (h2 : i < 2 ^ 62) (h3 : -(2 ^ 62) ≤ j) (h4 : j < 2 ^ 62) : EvI K (iRng2 ta) r ((irange i (j - i).toNat).map .int) := fun B H s E R k => h B H s E _ fun vs B1 H1 x1 hv => by
  cases hv with
  | cons a b =>
    cases a
    cases b with
    | cons a b =>
      cases a; cases b
      exact ⟨i, j, rfl, ⟨h1, h2, h3, h4⟩, k _ B1 H1 x1 walks_rng⟩
theorem EnvS.base {B0 B1 H1 B H : Hp} {s s' : L2.St} {r' : Rho} (e : EnvS K B0 H0 B1 H1 s r) (e' : EnvS K B1 H0 B H s' r') : EnvS K B0 H0 B H s' r' :=
  ⟨⟨e.st.b.trans e'.st.b, e'.st.h, e'.st.i, fun a n m => e'.st.f a (e.st.f a n m) m⟩, e'.en, e'.ow⟩
theorem EnvS.rebase {B0 B H : Hp} {s : L2.St} (e : EnvS K B0 H0 B H s r) : EnvS K B H0 B H s r := ⟨⟨.refl _, e.st.h, e.st.i, fun _ n _ => n⟩, e.en, e.ow⟩
theorem Sat.rebase {B0 B1 H1 : Hp} {s : L2.St} {D : Ends} (e : EnvS K B0 H0 B1 H1 s r) (S : Sat K B0 H0 W D) : Sat K B1 H0 W D :=
  ⟨fun r' B H s' q E => S.nx r' B H s' q (e.base E), fun d v B H q x h => S.rt d v B H q ⟨e.st.b.trans x.b, x.h, x.i, fun a n m => x.f a (e.st.f a n m) m⟩ h, fun r' B H s' q E => S.bk r' B H s' q (e.base E), fun r' B H s' q E => S.ct r' B H s' q (e.base E)⟩
theorem wp_for {wi : TI} {g : TG} {xs : List PyData} (hi : EvI K wi r xs) (I : Nat → Rho → Prop) (h0 : I 0 r)
    (hs : ∀ i d r1, xs[i]? = some d → I i r1 → ∃ r2, GS K g d r1 r2 ∧ WP K H0 t r2 { W with nx := I (i + 1), ct := I (i + 1), bk := W.nx }) (hd : ∀ r1, I xs.length r1 → W.nx r1) : WP K H0 (tFor wi g t) r W := fun B0 B H s D E S =>
  hi B H s E.en _ fun J B1 H1 x1 wk => by
    have E1 := E.mono x1
    have S1 := S.rebase E1
    refine ⟨fun i m s' H' => m = xs.length - i ∧ i ≤ xs.length ∧ ∃ r' B', I i r' ∧ EnvS K B1 H0 B' H' s' r', ⟨xs.length, by simp, Nat.zero_le _, r, B1, h0, E1.rebase⟩, ?_⟩
    rintro i m s' H' ⟨rfl, hle, r', B', hI, E'⟩
    by_cases hlt : i < xs.length
    · refine .inr ⟨wk.go i B' H' E'.st.b E'.st.i hlt, fun s2 H2 => ∃ r2 B2, I (i + 1) r2 ∧ EnvS K B1 H0 B2 H2 s2 r2, fun s2 H2 ⟨r2, B2, q1, q2⟩ => ⟨xs.length - (i + 1), by omega, rfl, hlt, r2, B2, q1, q2⟩, fun x H2 y => ?_⟩
      obtain ⟨d, B2, q1, q2, q3⟩ := wk.yld i B' H' x H2 E'.st.b E'.st.i y hlt
      obtain ⟨r2, hg, hw⟩ := hs i d r' q1 hI
      refine hg x B1 H0 B2 H2 s' (E'.mono q2) q3 _ fun s2 E2 => ?_
      exact hw B1 B2 H2 s2 _ E2 ⟨fun r3 B3 H3 s3 q E3 => ⟨r3, B3, q, E3⟩, S1.rt, fun r3 B3 H3 s3 q E3 => S1.nx r3 B3 H3 s3 q E3, fun r3 B3 H3 s3 q E3 => ⟨r3, B3, q, E3⟩⟩
    · have e : i = xs.length := by omega
      subst e
      exact .inl ⟨wk.stop B' H' E'.st.b E'.st.i, S1.nx r' B' H' s' (hd r' hI) E'⟩
/-- while: the invariant with its measure -/
theorem wp_while {c : TT} (I : Nat → Rho → Prop) (m0 : Nat) (h0 : I m0 r) (hs : ∀ m r1, I m r1 → ∃ b, EvT K c r1 b ∧ (b = true → WP K H0 t r1 { W with nx := fun r2 => ∃ m', m' < m ∧ I m' r2, ct := fun r2 => ∃ m', m' < m ∧ I m' r2, bk := W.nx }) ∧ (b = false → W.nx r1)) :
    WP K H0 (tWhile c t) r W := fun B0 B H s D E S => by
  refine ⟨fun m s' H' => ∃ r' B', I m r' ∧ EnvS K B0 H0 B' H' s' r', ⟨m0, r, B, h0, E⟩, ?_⟩
  rintro m s' H' ⟨r', B', hI, E'⟩
  obtain ⟨b, hc, h1, h2⟩ := hs m r' hI
  refine hc B' H' s' E'.en _ fun B2 H2 x2 => ?_
  cases b with
  | true =>
    refine ⟨fun s3 H3 => ∃ m', m' < m ∧ ∃ r3 B3, I m' r3 ∧ EnvS K B0 H0 B3 H3 s3 r3, fun s3 H3 ⟨m', l, q⟩ => ⟨m', l, q⟩, ?_⟩
    exact h1 rfl B0 B2 H2 s' _ (E'.mono x2) ⟨fun r3 B3 H3 s3 ⟨m', l, q⟩ E3 => ⟨m', l, r3, B3, q, E3⟩, S.rt, fun r3 B3 H3 s3 q E3 => S.nx r3 B3 H3 s3 q E3, fun r3 B3 H3 s3 ⟨m', l, q⟩ E3 => ⟨m', l, r3, B3, q, E3⟩⟩
  | false => exact S.nx r' B2 H2 s' (h2 rfl) (E'.mono x2)

/-! ### comprehensions -/
def wipeR (r : Rho) : List Nat → Rho
  | [] => r
  | v :: vs => (wipeR r vs).set v .no
theorem EnvR.wipe {B H : Hp} {s : L2.St} (e : EnvR K B H s r) : ∀ vs : List Nat, EnvR K B H (L2.wipe s vs) (wipeR r vs)
  | [] => e
  | v :: vs => (EnvR.wipe e vs).set_no
theorem wipe_set {s : L2.St} {i : Nat} {o : Option V} : ∀ {vs : List Nat}, i ∈ vs → L2.wipe (s.set i o) vs = L2.wipe s vs
  | [], h => by cases h
  | v :: vs, h => by
    by_cases hv : i ∈ vs
    · show (L2.wipe (s.set i o) vs).set v none = (L2.wipe s vs).set v none
      rw [wipe_set hv]
    · have e : i = v := by
        rcases List.mem_cons.mp h with h | h
        · exact h
        · exact absurd h hv
      subst e
      show (L2.wipe (s.set i o) vs).set i none = (L2.wipe s vs).set i none
      have : ∀ {ws : List Nat}, i ∉ ws → (L2.wipe (s.set i o) ws) = (L2.wipe s ws).set i o := by
        intro ws
        induction ws with
        | nil => intro _; rfl
        | cons w ws ih =>
          intro hw
          have h1 : i ≠ w := fun z => hw (by rw [z]; exact List.mem_cons_self)
          have h2 : i ∉ ws := fun z => hw (List.mem_cons_of_mem _ z)
          show (L2.wipe (s.set i o) ws).set w none = ((L2.wipe s ws).set w none).set i o
          rw [ih h2, List.set_comm _ _ h1]
      rw [this hv, List.set_set]
theorem wipe_idem {s : L2.St} : ∀ vs : List Nat, L2.wipe (L2.wipe s vs) vs = L2.wipe s vs
  | [] => rfl
  | v :: vs => by
    show (L2.wipe ((L2.wipe s vs).set v none) vs).set v none = (L2.wipe s vs).set v none
    by_cases hv : v ∈ vs
    · rw [wipe_set hv, wipe_idem vs]
    · have : ∀ {ws : List Nat} {s' : L2.St}, v ∉ ws → (L2.wipe (s'.set v none) ws) = (L2.wipe s' ws).set v none := by
        intro ws s'
        induction ws with
        | nil => intro _; rfl
        | cons w ws ih =>
          intro hw
          have h1 : v ≠ w := fun z => hw (by rw [z]; exact List.mem_cons_self)
          have h2 : v ∉ ws := fun z => hw (List.mem_cons_of_mem _ z)
          show (L2.wipe (s'.set v none) ws).set w none = ((L2.wipe s' ws).set w none).set v none
          rw [ih h2, List.set_comm _ _ h1]
      rw [this hv, List.set_set, wipe_idem vs]
/-- a comprehension's target takes a value -/
def GC (K : PySem.W.Frag) (vs : List Nat) (g : TG) (d : PyData) (r r2 : Rho) : Prop := ∀ v B H s, EnvR K B H s r → Dp K B v d → ∀ Q : L2.St → Hp → Prop, (∀ s2, EnvR K B H s2 r2 → L2.wipe s2 vs = L2.wipe s vs → Q s2 H) → g v s H Q
theorem gc_name {vs : List Nat} {i : Nat} (hi : i ∈ vs) : GC K vs (gName i) d r (r.set i (.im d)) := fun v B H s E h Q k => k _ (E.set_im h) (wipe_set hi)
theorem gc_tup2 {vs : List Nat} {i j : Nat} (hi : i ∈ vs) (hj : j ∈ vs) : GC K vs (gTup K 2 (gCons (gName i) (gCons (gName j) gNil))) (.tuple [d, e]) r ((r.set i (.im d)).set j (.im e)) := fun v B H s E h Q k => by
  cases h with
  | tup q2 q3 =>
    cases q3 with
    | cons a1 q3 =>
      cases q3 with
      | cons a2 q3 =>
        cases q3
        exact ⟨_, _, rfl, sqt_mono E.i q2, rfl, _, _, rfl, _, _, rfl, rfl, k _ ((E.set_im a1).set_im a2) (by rw [wipe_set hj, wipe_set hi])⟩
theorem et_yes : EvT K tYes r true := fun B H s E Q k => k B H (.refl E.i)
theorem fm_take {α β : Type} {f : α → Option β} : ∀ {l : List α} {i : Nat} {x : α}, l[i]? = some x → (l.take (i + 1)).filterMap f = (l.take i).filterMap f ++ (f x).toList := fun {l i x} h => by
  rw [List.take_add_one, h, List.filterMap_append]
  congr 1
theorem ev_lc {α : Type} {wi : TI} {g : TG} {tt : TT} {vs : List Nat} (as : List α) (c : α → PyData) (f : α → Option PyData) (hi : EvI K wi r (as.map c)) (hz : as.length ≤ sizeLine)
    (hs : ∀ a ∈ as, ∃ r2, GC K vs g (c a) (wipeR r vs) r2 ∧ ∃ b, EvT K tt r2 b ∧ ((b = false ∧ f a = none) ∨ (b = true ∧ ∃ y, f a = some y ∧ EvD K te r2 y))) : EvN K (tLc wi g tt te vs) r (as.filterMap f) := fun B H s E Q k =>
  hi B H s E _ fun J B1 H1 x1 wk => fun D hD => by
    have hBD : B1 D = none := x1.i.free hD
    refine ⟨fun i m H' => m = as.length - i ∧ i ≤ as.length ∧ ∃ B' acc, Stp B1 H1 B' H' ∧ B' D = none ∧ H' D = some (.lst acc) ∧ DpAll K B' acc ((as.take i).filterMap f),
      ⟨as.length, by simp, Nat.zero_le _, B1, [], .skip x1.i hD, hBD, upd_same, .nil⟩, ?_⟩
    rintro i m H' ⟨rfl, hle, B', acc, st, hb, hh, hd⟩
    have hlen : (as.map c).length = as.length := List.length_map _
    by_cases hlt : i < as.length
    · refine .inr ⟨wk.go i B' H' st.b st.i (by rw [hlen]; exact hlt), fun H2 => ∃ B2 acc2, Stp B1 H1 B2 H2 ∧ B2 D = none ∧ H2 D = some (.lst acc2) ∧ DpAll K B2 acc2 ((as.take (i + 1)).filterMap f), fun H2 ⟨B2, acc2, q⟩ => ⟨as.length - (i + 1), by omega, rfl, hlt, B2, acc2, q⟩, fun x H2 y => ?_⟩
      obtain ⟨d, B2, q1, q2, q3⟩ := wk.yld i B' H' x H2 st.b st.i y (by rw [hlen]; exact hlt)
      have ha : as[i]? = some as[i] := List.getElem?_eq_getElem hlt
      rw [List.getElem?_map, ha] at q1
      have q1' : c as[i] = d := Option.some.inj q1
      subst q1'
      obtain ⟨r2, hg, b, hb2, hc⟩ := hs as[i] (List.getElem_mem hlt)
      have st2 := st.trans q2
      have E2 := ((E.mono x1).mono st2).wipe vs
      refine hg x B2 H2 _ E2 q3 _ fun s2 E3 hw => ⟨by rw [hw, wipe_idem], ?_⟩
      refine hb2 B2 H2 s2 E3 _ fun B3 H3 x3 => ?_
      have hD2 : H2 D = some (.lst acc) := q2.h _ _ hh
      have hD3 : H3 D = some (.lst acc) := x3.h _ _ hD2
      have nn : H2 D ≠ none := by rw [hD2]; exact fun z => nomatch z
      have hB2 : B2 D = none := q2.f D hb (by rw [hh]; exact fun z => nomatch z)
      have hB3 : B3 D = none := x3.f D hB2 nn
      have hd3 := dpa_mono (q2.b.trans x3.b) _ _ hd
      have st3 := st2.trans x3
      rcases hc with ⟨rfl, hf⟩ | ⟨rfl, y, hf, hy⟩
      · refine ⟨B3, acc, st3, hB3, hD3, ?_⟩
        rw [fm_take ha, hf]
        show DpAll K B3 acc (_ ++ [])
        rw [List.append_nil]
        exact hd3
      · refine hy B3 H3 s2 (E3.mono x3) _ fun v B4 H4 x4 hv => ?_
        have hD4 : H4 D = some (.lst acc) := x4.h _ _ hD3
        have hB4 : B4 D = none := x4.f D hB3 (by rw [hD3]; exact fun z => nomatch z)
        refine ⟨acc, hD4, ?_, B4, _, (st3.trans x4).mut hD hB4, hB4, upd_same, ?_⟩
        · rw [dpa_len hd]
          have : ((as.take i).filterMap f).length ≤ i := Nat.le_trans (List.length_filterMap_le _ _) (by rw [List.length_take]; exact Nat.min_le_left _ _)
          omega
        · rw [fm_take ha, hf]
          exact dpa_app (dpa_mono x4.b _ _ hd3) (.cons hv .nil)
    · have e : i = as.length := by omega
      subst e
      rw [List.take_length] at hd
      exact .inl ⟨by have := wk.stop B' H' st.b st.i; rw [hlen] at this; exact this, k D acc B' H' (x1.trans st) (x1.h.free hD) hh hb hd⟩
theorem fm_all {α : Type} {y : α → PyData} : ∀ as : List α, as.filterMap (fun a => some (y a)) = as.map y
  | [] => rfl
  | a :: as => by rw [List.filterMap_cons_some (f := fun a => some (y a)) (b := y a) rfl, fm_all as]; rfl
theorem fm_if {α : Type} {p : α → Bool} {y : α → PyData} : ∀ as : List α, as.filterMap (fun a => if p a then some (y a) else none) = (as.filter p).map y
  | [] => rfl
  | a :: as => by
    cases h : p a with
    | true => rw [List.filterMap_cons_some (b := y a) (by simp [h]), fm_if as, List.filter_cons_of_pos h]; rfl
    | false => rw [List.filterMap_cons_none (by simp [h]), fm_if as, List.filter_cons_of_neg (by simp [h])]
/-- [y for a in as] -/
theorem ev_lcM {α : Type} {wi : TI} {g : TG} {vs : List Nat} {xs : List PyData} (hi : EvI K wi r xs) (as : List α) (c : α → PyData) (y : α → PyData) (hx : xs = as.map c) (hz : as.length ≤ sizeLine)
    (hs : ∀ a ∈ as, ∃ r2, GC K vs g (c a) (wipeR r vs) r2 ∧ EvD K te r2 (y a)) : EvN K (tLc wi g tYes te vs) r (as.map y) := by
  subst hx
  rw [← fm_all as]
  exact ev_lc as c _ hi hz fun a ha => let ⟨r2, h1, h2⟩ := hs a ha; ⟨r2, h1, true, et_yes, .inr ⟨rfl, _, rfl, h2⟩⟩
/-- [y for a in as if p] -/
theorem ev_lcF {α : Type} {wi : TI} {g : TG} {tt : TT} {vs : List Nat} {xs : List PyData} (hi : EvI K wi r xs) (as : List α) (c : α → PyData) (p : α → Bool) (y : α → PyData) (hx : xs = as.map c) (hz : as.length ≤ sizeLine)
    (hs : ∀ a ∈ as, ∃ r2, GC K vs g (c a) (wipeR r vs) r2 ∧ EvT K tt r2 (p a) ∧ (p a = true → EvD K te r2 (y a))) : EvN K (tLc wi g tt te vs) r ((as.filter p).map y) := by
  subst hx
  rw [← fm_if as]
  exact ev_lc as c _ hi hz fun a ha => by
    obtain ⟨r2, h1, h2, h3⟩ := hs a ha
    refine ⟨r2, h1, p a, h2, ?_⟩
    cases q : p a with
    | true => exact .inr ⟨rfl, _, by simp, h3 q⟩
    | false => exact .inl ⟨rfl, by simp⟩

theorem ev_is2 (h : EvN K te r ds) (q : ds = es) : EvN K te r es := q ▸ h
/-! ### a def's body -/
def st0 (n : Nat) (ds : List PyData) : Rho := ds.map .im ++ List.replicate (n - ds.length) .no
theorem dpa_start {H : Hp} {N : List Str} {vs : List V} (h : DpAll K H vs ds) {B : Hp} (i : Same H B) : EnvR K H B (L2.start N vs) (st0 N.length ds) := by
  have hl := dpa_len h
  refine ⟨i, ?_, fun {n d} e => ?_, fun {n es} e => ?_, fun {n m d1 d2 l} e1 e2 => ?_⟩
  · unfold L2.start st0
    rw [List.length_append, List.length_append, List.length_map, List.length_map, List.length_replicate, List.length_replicate, hl]
  · unfold st0 at e
    rw [List.getElem?_append] at e
    split at e
    · rename_i hn
      rw [List.length_map] at hn
      rw [List.getElem?_map] at e
      cases q : ds[n]? with
      | none => rw [q] at e; cases e
      | some d' =>
        rw [q] at e
        cases e
        obtain ⟨v, h1, h2⟩ := dpa_get h q
        refine ⟨v, ?_, h2⟩
        unfold L2.start
        rw [List.getElem?_append_left (by rw [List.length_map, hl]; exact hn), List.getElem?_map, h1]
        rfl
    · rw [List.getElem?_replicate] at e
      split at e <;> cases e
  · exfalso
    unfold st0 at e
    rw [List.getElem?_append] at e
    split at e
    · rw [List.getElem?_map] at e
      cases q : ds[n]? with
      | none => rw [q] at e; cases e
      | some d' => rw [q] at e; cases e
    · rw [List.getElem?_replicate] at e
      split at e <;> cases e
  · exfalso
    unfold st0 at e1
    rw [List.getElem?_append] at e1
    split at e1
    · rw [List.getElem?_map] at e1
      cases q : ds[n]? with
      | none => rw [q] at e1; cases e1
      | some d' => rw [q] at e1; cases e1
    · rw [List.getElem?_replicate] at e1
      split at e1 <;> cases e1
theorem env_start {H B : Hp} {N : List Str} {vs : List V} (h : DpAll K B vs ds) (i : Same B H) : EnvS K B H B H (L2.start N vs) (st0 N.length ds) := by
  have E := dpa_start (N := N) h i
  refine ⟨.refl i, E, fun {n es l} e => ?_⟩
  exfalso
  unfold st0 at e
  rw [List.getElem?_append] at e
  split at e
  · rw [List.getElem?_map] at e
    cases q : ds[n]? with
    | none => rw [q] at e; cases e
    | some d' => rw [q] at e; cases e
  · rw [List.getElem?_replicate] at e
    split at e <;> cases e
theorem spR_body {F : List PyData → PyData → Prop} {N : List Str} {vs : List V} {H : Hp} {Q : VK} {X : XK} (h : spR K F vs H Q X)
    (hb : ∀ ds d H0, F ds d → WP K H0 t (st0 N.length ds) { nx := fun _ => False, rt := fun d' => d' = d }) : t { nx := fun _ H' => Q .non H', rt := Q } (L2.start N vs) H := by
  obtain ⟨B, ds, d, i, hv, hF, k⟩ := h
  exact hb ds d H hF B B H _ _ (env_start hv i) ⟨fun _ _ _ _ z => z.elim, fun d' v B' H' e x y => k v B' H' x (e ▸ y), fun _ _ _ _ z => z.elim, fun _ _ _ _ z => z.elim⟩
theorem spR_len {F : List PyData → PyData → Prop} {vs : List V} {H : Hp} {Q : VK} {X : XK} {n : Nat} (h : spR K F vs H Q X) (hF : ∀ ds d, F ds d → ds.length = n) : vs.length = n := by
  obtain ⟨B, ds, d, i, hv, h1, k⟩ := h
  rw [dpa_len hv, hF ds d h1]
theorem spX_body {C : Addr} {F : List PyData → PyData → Prop} {R : List PyData → Prop} {N : List Str} {vs : List V} {H : Hp} {Q : VK} {X : XK} (h : spX K C F R vs H Q X)
    (h1 : ∀ ds d, F ds d → WP K H t (st0 N.length ds) { nx := fun _ => False, rt := fun d' => d' = d })
    (h2 : ∀ ds, R ds → (∀ H', Same H H' → X (.ref C) none H') → WP K H t (st0 N.length ds) { nx := fun _ => False, rt := fun _ => False }) : t { nx := fun _ H' => Q .non H', rt := Q } (L2.start N vs) H := by
  obtain ⟨B, ds, i, hv, h⟩ := h
  rcases h with ⟨d, hF, k⟩ | ⟨hR, k⟩
  · exact h1 ds d hF B B H _ _ (env_start hv i) ⟨fun _ _ _ _ z => z.elim, fun d' v B' H' e x y => k v B' H' x (e ▸ y), fun _ _ _ _ z => z.elim, fun _ _ _ _ z => z.elim⟩
  · exact h2 ds hR k B B H _ _ (env_start hv i) ⟨fun _ _ _ _ z => z.elim, fun _ _ _ _ z => z.elim, fun _ _ _ _ z => z.elim, fun _ _ _ _ z => z.elim⟩
theorem spX_len {C : Addr} {F : List PyData → PyData → Prop} {R : List PyData → Prop} {vs : List V} {H : Hp} {Q : VK} {X : XK} {n : Nat} (h : spX K C F R vs H Q X) (hF : ∀ ds d, F ds d → ds.length = n) (hR : ∀ ds, R ds → ds.length = n) : vs.length = n := by
  obtain ⟨B, ds, i, hv, h⟩ := h
  rcases h with ⟨d, h1, k⟩ | ⟨h1, k⟩
  · rw [dpa_len hv, hF ds d h1]
  · rw [dpa_len hv, hR ds h1]
/-- raise of the def's own error -/
theorem wp_raise {C : Addr} {X : XK} (h : ∀ H', Same H0 H' → X (.ref C) none H') : WP K H0 (fun _ σ H => X (.ref C) none H) r W := fun B0 B H s D E S => h H E.st.h
/-! ### where a def stands, and that it keeps its promise -/
structure DefAt (K : PySem.W.Frag) (mg : Str → Option Value) (x : Str) (st : Stmt) (f : Addr) (fd : FuncData) : Prop where
  F : Fun K x x st f fd
  m : mg x = some (.ref f)
structure CalOk (P : Program) (w : World) (K : PySem.W.Frag) (mg : Str → Option Value) (base : Heap) (CX : CXT) (k : Nat) (x : Str) (ps : List Str) (sp : Sp) : Prop where
  ex : ∃ f fd, FnOk P w K mg base CX k f fd ps sp ∧ mg x = some (.ref f) ∧ PySem.W.keepIn K (.ref f) = true ∧ Binds K fd ps []
end
section
variable {X : Cx}
theorem pe_callC {k : Nat} {x : Str} {ps : List Str} {sp : Sp} {p pos : Pos} {e : Expr} {es : List Expr} {t : TA} (C : CalOk X.prog X.w X.K X.mg X.base CX0 k x ps sp) (hr : Room k X.A) (hg : Gl X x)
    (ha : PA X (e :: es) t) (hdb : (x == ("__debug__" : Str)) = false := by decide) (he : starEach (e :: es) X.env = (false, eval e X.env) :: starEach es X.env := by rfl) (hpl : (backTo pos (starEach es X.env)).any (·.1) = false := by rfl) :
    PE X (.Call (.Name x p) (e :: es) [] pos) (tCall sp [] E0 t) := by
  obtain ⟨f, fd, F, m, kp, b⟩ := C.ex
  exact pe_call F hr hg m kp b .nil pass0 ha hdb he hpl
theorem pe_callL {k : Nat} {x : Str} {ps : List Str} {sp : Sp} {p pos : Pos} {e : Expr} {es : List Expr} {t : TA} (C : CalOk X.prog X.w X.K X.mg X.base (L2.CX X.prog X.w) k x ps sp) (hr : Room k X.A) (hg : Gl X x)
    (ha : PA X (e :: es) t) (hdb : (x == ("__debug__" : Str)) = false := by decide) (he : starEach (e :: es) X.env = (false, eval e X.env) :: starEach es X.env := by rfl) (hpl : (backTo pos (starEach es X.env)).any (·.1) = false := by rfl) :
    PE X (.Call (.Name x p) (e :: es) [] pos) (tCall sp [] E0 t) := by
  obtain ⟨f, fd, F, m, kp, b⟩ := C.ex
  exact pe_call F hr hg m kp b .nil passL ha hdb he hpl
end
end Od

namespace Od
open PySem PySem.Spec PyProof.Rows L2

theorem boot_len : bootBuiltins "len" = some (.builtin "len") := by decide +kernel
theorem boot_sorted : bootBuiltins "sorted" = some (.builtin "sorted") := by decide +kernel
theorem boot_min : bootBuiltins "min" = some (.builtin "min") := by decide +kernel
theorem boot_max : bootBuiltins "max" = some (.builtin "max") := by decide +kernel
theorem boot_all : bootBuiltins "all" = some (.builtin "all") := by decide +kernel
theorem boot_isinstance : bootBuiltins "isinstance" = some (.builtin "isinstance") := by decide +kernel
theorem boot_tuple : bootBuiltins "tuple" = some (.type "tuple") := by decide +kernel
theorem boot_list : bootBuiltins "list" = some (.type "list") := by decide +kernel
theorem boot_int : bootBuiltins "int" = some (.type "int") := by decide +kernel
theorem boot_bool : bootBuiltins "bool" = some (.type "bool") := by decide +kernel
theorem boot_ValueError : bootBuiltins "ValueError" = some (.type "ValueError") := by decide +kernel
/-- the built-ins' names are not the module's -/
structure Bt (mg : Str → Option Value) : Prop where
  len_ : mg "len" = none
  sorted_ : mg "sorted" = none
  min_ : mg "min" = none
  max_ : mg "max" = none
  all_ : mg "all" = none
  isinstance_ : mg "isinstance" = none
  tuple_ : mg "tuple" = none
  list_ : mg "list" = none
  int_ : mg "int" = none
  bool_ : mg "bool" = none
  range_ : mg "range" = none
  enumerate_ : mg "enumerate" = none
  reversed_ : mg "reversed" = none
  ValueError_ : mg "ValueError" = none
/-- the error's class -/
structure Ze (K : PySem.W.Frag) (mg : Str → Option Value) (C : Addr) : Prop where
  xC : PySem.W.excIn K C [.type "ValueError", .type "Exception", .type "BaseException", .type "object"] "ValueError.__new__" = true
  gC : mg "NotNow" = some (.ref C)
  kC : PySem.W.keepIn K (.ref C) = true
  bC : PySem.W.subIn K (.ref C) (.type "BaseException") = some true
  tC : PySem.W.typeIn K (.ref C) = some (.type "type")
section
variable {X : Cx}
theorem op_mulB : OpR X (binaryOp .Mult) (rI IntMulOk fun i j => .int (i * j)) := opI fun _ _ _ _ _ _ _ hc q => mul_int q hc
theorem op_pow2 : OpR X (binaryOp .Pow) (rI (fun a n => 0 ≤ n ∧ (Builtin.Int.intBits a : Int) * n ≤ 2 ^ 27) fun i j => .int (i ^ j.toNat)) := opI fun _ _ _ _ _ _ _ hc q => pow_int hc.1 hc.2 q
end
section
variable {X : Cx} {K : PySem.W.Frag}
theorem ix_listK (h : X.K = K) : IxR X (rIxL K) := h ▸ ix_list
theorem ix_tupK (h : X.K = K) : IxR X (rIxT K) := h ▸ ix_tup
theorem op_eqK (h : X.K = K) (hu : X.A.units + 64 < cLine) : OpR X (compareOp .Eq) (rEqD K) := h ▸ op_eqD hu
theorem op_neK (h : X.K = K) (hu : X.A.units + 64 < cLine) : OpR X (compareOp .NotEq) (rNeD K) := h ▸ op_neD hu
theorem op_inK (h : X.K = K) : OpR X (compareOp .In) (rIn K false) := h ▸ op_in_seq
theorem op_ninK (h : X.K = K) : OpR X (compareOp .NotIn) (rIn K true) := h ▸ op_notIn_seq
theorem op_catK (h : X.K = K) : OpR X (binaryOp .Add) (rCatA K) := h ▸ op_catA
theorem op_ltK (h : X.K = K) (hu : X.A.units < cLine) : OpR X (compareOp .Lt) (rLtT K) := h ▸ op_ltT hu
theorem op_repK (h : X.K = K) : OpR X (binaryOp .Mult) (rRepT K) := h ▸ op_repT
theorem sl_listK (h : X.K = K) : SlR X (rSlL K) := h ▸ sl_list
theorem sl_tupK (h : X.K = K) : SlR X (rSlA K) := h ▸ sl_tupA
theorem call_lenK (h : X.K = K) : CallR X (.builtin "len") (fun xs H Q => ∃ p ys, xs = [.ref p] ∧ (SqL K H p ys ∨ SqT K H p ys) ∧ Q (.int ys.length) H) := h ▸ call_len_seq
theorem call_tupleK (h : X.K = K) : CallR X (.type "tuple") (fun xs H Q => ∃ p ys, xs = [.ref p] ∧ ((SqL K H p ys ∧ ∀ l, H l = none → Q (.ref l) (upd H l (.tup ys))) ∨ (SqT K H p ys ∧ Q (.ref p) H))) := h ▸ call_tuple_of
theorem call_listK (h : X.K = K) : CallR X (.type "list") (fun xs H Q => ∃ p ys, xs = [.ref p] ∧ (SqL K H p ys ∨ SqT K H p ys) ∧ ∀ l, H l = none → Q (.ref l) (upd H l (.lst ys))) := h ▸ call_list_of
theorem cr_sortedK (h : X.K = K) : CallR X (.builtin "sorted") (rSortedI K) := h ▸ cr_sortedI
theorem cr_minK (h : X.K = K) (hc : X.calm = true) : CallR X (.builtin "min") (rMin K) := h ▸ cr_min hc
theorem cr_allK (h : X.K = K) (hc : X.calm = true) : CallR X (.builtin "all") (rAll K) := h ▸ cr_all hc
theorem call_isiK' (h : X.K = K) : CallR X (.builtin "isinstance") (rIsi K) := h ▸ call_isi
end
/-! ### data: equality, form -/
abbrev tI (ns : List Int) : PyData := .tuple (ns.map .int)
abbrev lI (ns : List Int) : PyData := .list (ns.map .int)
theorem sh_int (i : Int) : SeqAt.shaped (.int i) = true := rfl
theorem sh_bool (b : Bool) : SeqAt.shaped (.bool b) = true := rfl
theorem sh_tI (ns : List Int) : SeqAt.shaped (tI ns) = true := by
  simp [SeqAt.shaped, PyData.canLay0, PyData.depth, PySem.W.ke_canLayAll0, PySem.W.ke_depthAll]
theorem sh_lI (ns : List Int) : SeqAt.shaped (lI ns) = true := by
  simp [SeqAt.shaped, PyData.canLay0, PyData.depth, PySem.W.ke_canLayAll0, PySem.W.ke_depthAll]
theorem eqv_int (i j : Int) : PyData.eqv (.int i) (.int j) = decide (i = j) := by
  simp [PyData.eqv]
  by_cases h : i = j <;> simp [h]
theorem eqv_bool (a b : Bool) : PyData.eqv (.bool a) (.bool b) = (a == b) := by
  cases a <;> cases b <;> simp [PyData.eqv]
theorem eqvAll_ints : ∀ ns ms : List Int, PyData.eqvAll (ns.map .int) (ms.map .int) = decide (ns = ms)
  | [], [] => by simp [PyData.eqvAll]
  | [], _ :: _ => by simp [PyData.eqvAll]
  | _ :: _, [] => by simp [PyData.eqvAll]
  | a :: r, b :: t => by
    rw [List.map_cons, List.map_cons, PyData.eqvAll, eqv_int, eqvAll_ints r t]
    by_cases h : a = b <;> by_cases h' : r = t <;> simp [h, h']
theorem eqv_tI (ns ms : List Int) : PyData.eqv (tI ns) (tI ms) = decide (ns = ms) := by
  show PyData.eqv (.tuple _) (.tuple _) = _
  rw [PyData.eqv, eqvAll_ints]
theorem eqv_lI (ns ms : List Int) : PyData.eqv (lI ns) (lI ms) = decide (ns = ms) := by
  show PyData.eqv (.list _) (.list _) = _
  rw [PyData.eqv, eqvAll_ints]
section
variable {K : PySem.W.Frag} {r : Rho} {ta tb : TE} {ns ms : List Int} {i j : Int}
theorem ev_eqI (ha : EvD K ta r (.int i)) (hb : EvD K tb r (.int j)) : EvD K (tOp (rEqD K) ta tb) r (.bool (decide (i = j))) := by
  rw [← eqv_int]; exact ev_eq ha.toH hb.toH rfl rfl
theorem ev_eqB {a b : Bool} (ha : EvD K ta r (.bool a)) (hb : EvD K tb r (.bool b)) : EvD K (tOp (rEqD K) ta tb) r (.bool (a == b)) := by
  rw [← eqv_bool]; exact ev_eq ha.toH hb.toH rfl rfl
theorem ev_neI (ha : EvD K ta r (.int i)) (hb : EvD K tb r (.int j)) : EvD K (tOp (rNeD K) ta tb) r (.bool (!decide (i = j))) := by
  rw [← eqv_int]; exact ev_ne ha.toH hb.toH rfl rfl
theorem ev_eqT (ha : EvD K ta r (tI ns)) (hb : EvD K tb r (tI ms)) : EvD K (tOp (rEqD K) ta tb) r (.bool (decide (ns = ms))) := by
  rw [← eqv_tI]; exact ev_eq ha.toH hb.toH (sh_tI _) (sh_tI _)
theorem ev_neT (ha : EvD K ta r (tI ns)) (hb : EvD K tb r (tI ms)) : EvD K (tOp (rNeD K) ta tb) r (.bool (!decide (ns = ms))) := by
  rw [← eqv_tI]; exact ev_ne ha.toH hb.toH (sh_tI _) (sh_tI _)
theorem ev_eqL (ha : EvL K ta r (ns.map .int)) (hb : EvL K tb r (ms.map .int)) : EvD K (tOp (rEqD K) ta tb) r (.bool (decide (ns = ms))) := by
  rw [← eqv_lI]; exact ev_eq ha.toH hb.toH (sh_lI _) (sh_lI _)
theorem ev_add (ha : EvD K ta r (.int i)) (hb : EvD K tb r (.int j)) : EvD K (tOp (rI0 fun i j => .int (i + j)) ta tb) r (.int (i + j)) := ev_I0 ha hb fun _ => .int _
theorem ev_sub (ha : EvD K ta r (.int i)) (hb : EvD K tb r (.int j)) : EvD K (tOp (rI0 fun i j => .int (i - j)) ta tb) r (.int (i - j)) := ev_I0 ha hb fun _ => .int _
theorem ev_mod (ha : EvD K ta r (.int i)) (hb : EvD K tb r (.int j)) (hc : 0 < j) : EvD K (tOp (rI (fun _ j => 0 < j) fun i j => .int (i % j)) ta tb) r (.int (i % j)) := ev_I ha hb hc fun _ => .int _
theorem ev_pow (ha : EvD K ta r (.int i)) (hb : EvD K tb r (.int j)) (h0 : 0 ≤ j) (hz : (Builtin.Int.intBits i : Int) * j ≤ 2 ^ 27) : EvD K (tOp (rI (fun a n => 0 ≤ n ∧ (Builtin.Int.intBits a : Int) * n ≤ 2 ^ 27) fun i j => .int (i ^ j.toNat)) ta tb) r (.int (i ^ j.toNat)) := ev_I ha hb ⟨h0, hz⟩ fun _ => .int _
theorem ev_div (ha : EvD K ta r (.int i)) (hb : EvD K tb r (.int j)) (hc : 0 < j ∧ j < 1073741824) : EvD K (tOp (rI CDiv fun i j => .int (i / j)) ta tb) r (.int (i / j)) := ev_I ha hb hc fun _ => .int _
theorem ev_mul (ha : EvD K ta r (.int i)) (hb : EvD K tb r (.int j)) (hc : IntMulOk i j) : EvD K (tOp (rI IntMulOk fun i j => .int (i * j)) ta tb) r (.int (i * j)) := ev_I ha hb hc fun _ => .int _
theorem ev_lt (ha : EvD K ta r (.int i)) (hb : EvD K tb r (.int j)) : EvD K (tOp (rI0 fun i j => .bl (decide (i < j))) ta tb) r (.bool (decide (i < j))) := ev_I0 ha hb fun _ => .bl _
theorem ev_le (ha : EvD K ta r (.int i)) (hb : EvD K tb r (.int j)) : EvD K (tOp (rI0 fun i j => .bl (decide (i ≤ j))) ta tb) r (.bool (decide (i ≤ j))) := ev_I0 ha hb fun _ => .bl _
theorem ev_gt (ha : EvD K ta r (.int i)) (hb : EvD K tb r (.int j)) : EvD K (tOp (rI0 fun i j => .bl (decide (j < i))) ta tb) r (.bool (decide (j < i))) := ev_I0 ha hb fun _ => .bl _
theorem ev_ge (ha : EvD K ta r (.int i)) (hb : EvD K tb r (.int j)) : EvD K (tOp (rI0 fun i j => .bl (decide (j ≤ i))) ta tb) r (.bool (decide (j ≤ i))) := ev_I0 ha hb fun _ => .bl _
theorem ev_neg (ha : EvD K ta r (.int i)) : EvD K (tUn (rU fun i => .int (-i)) ta) r (.int (-i)) := ev_un ha fun x B H _ h Q k => by
  cases h
  exact ⟨i, rfl, k _ (.int _)⟩
theorem ev_t1 (ha : EvD K ta r (.int i)) : EvD K (tTup (tCons ta tNil)) r (tI [i]) := ev_tup (ea_cons ha ea_nil) (Nat.le_trans (show 1 ≤ 100000 by decide) (by decide))
/-- sorted ints -/
def ins (x : Int) : List Int → List Int
  | [] => [x]
  | y :: l => if x ≤ y then x :: y :: l else y :: ins x l
def isort : List Int → List Int
  | [] => []
  | x :: l => ins x (isort l)
theorem ins_perm (x : Int) : ∀ l : List Int, (ins x l).Perm (x :: l)
  | [] => .refl _
  | y :: l => by
    unfold ins
    split
    · exact .refl _
    · exact (List.Perm.cons y (ins_perm x l)).trans (.swap x y l)
theorem isort_perm : ∀ l : List Int, (isort l).Perm l
  | [] => .refl _
  | x :: l => (ins_perm x _).trans (List.Perm.cons x (isort_perm l))
theorem ins_mem {x z : Int} {l : List Int} : z ∈ ins x l ↔ z = x ∨ z ∈ l := by
  rw [(ins_perm x l).mem_iff, List.mem_cons]
theorem ins_pw (x : Int) : ∀ l : List Int, l.Pairwise (· ≤ ·) → (ins x l).Pairwise (· ≤ ·)
  | [], _ => by unfold ins; exact List.pairwise_singleton _ _
  | y :: l, h => by
    unfold ins
    rw [List.pairwise_cons] at h
    split
    · rename_i hxy
      rw [List.pairwise_cons, List.pairwise_cons]
      refine ⟨fun a ha => ?_, h⟩
      rcases List.mem_cons.mp ha with rfl | ha
      · exact hxy
      · exact Int.le_trans hxy (h.1 a ha)
    · rename_i hxy
      rw [List.pairwise_cons]
      refine ⟨fun a ha => ?_, ins_pw x l h.2⟩
      rcases ins_mem.mp ha with rfl | ha
      · omega
      · exact h.1 a ha
theorem isort_pw : ∀ l : List Int, (isort l).Pairwise (· ≤ ·)
  | [] => .nil
  | x :: l => ins_pw x _ (isort_pw l)
theorem pw_perm_eq : ∀ {l m : List Int}, l.Pairwise (· ≤ ·) → m.Pairwise (· ≤ ·) → l.Perm m → l = m
  | [], m, _, _, p => (List.nil_perm.mp p).symm
  | a :: l, [], _, _, p => by have := p.length_eq; simp at this
  | a :: l, b :: m, h1, h2, p => by
    rw [List.pairwise_cons] at h1 h2
    have e : a = b := by
      have ha : a ∈ b :: m := p.mem_iff.mp List.mem_cons_self
      have hb : b ∈ a :: l := p.mem_iff.mpr List.mem_cons_self
      rcases List.mem_cons.mp ha with e | ha
      · exact e
      rcases List.mem_cons.mp hb with e | hb
      · exact e.symm
      exact Int.le_antisymm (h1.1 b hb) (h2.1 a ha)
    subst e
    rw [pw_perm_eq h1.2 h2.2 (List.perm_cons a |>.mp p)]
theorem isort_eq {l m : List Int} (h : m.Pairwise (· ≤ ·)) (p : m.Perm l) : isort l = m := pw_perm_eq (isort_pw l) h ((isort_perm l).trans p.symm)
theorem ev_sorted (ha : EvL K ta r (ns.map .int)) : EvN K (tCB (rSortedI K) (tCons ta tNil)) r ((isort ns).map .int) :=
  ev_cb1N ha fun x B H i ⟨a, xs, h1, h2, h3⟩ Q k => ⟨a, ns, by rw [h1], by rw [← dpa_ints_inv h3]; exact h2, fun ns' p q1 q2 hp => k p _ hp (by rw [isort_eq q2 q1]; exact dpa_ints _)⟩
end
/-! ### parts of lists -/
theorem cut_lo {xs : List PyData} {k : Nat} : cutD xs (some (k : Int)) none = xs.drop k := by
  unfold cutD
  rw [HT.sIx_nat, HT.sIx_none]
  by_cases h : k ≤ xs.length
  · rw [Nat.min_eq_left h]
    exact List.take_of_length_le (by rw [List.length_drop]; exact Nat.le_refl _)
  · rw [Nat.min_eq_right (by omega), Nat.sub_self, List.take_zero, List.drop_eq_nil_of_le (by omega)]
theorem cut_hi {xs : List PyData} {k : Nat} : cutD xs none (some (k : Int)) = xs.take k := by
  unfold cutD
  rw [HT.sIx_nat, HT.sIx_none, List.drop_zero, Nat.sub_zero]
  by_cases h : k ≤ xs.length
  · rw [Nat.min_eq_left h]
  · rw [Nat.min_eq_right (by omega), List.take_length, List.take_of_length_le (by omega)]
theorem cut_mid {xs : List PyData} {a b : Nat} : cutD xs (some (a : Int)) (some (b : Int)) = (xs.take b).drop a := by
  unfold cutD
  rw [HT.sIx_nat, HT.sIx_nat]
  rw [List.drop_take]
  by_cases h : a ≤ xs.length
  · rw [Nat.min_eq_left h]
    by_cases h2 : b ≤ xs.length
    · rw [Nat.min_eq_left h2]
    · rw [Nat.min_eq_right (by omega), List.take_of_length_le (by rw [List.length_drop]; exact Nat.le_refl _), List.take_of_length_le (by rw [List.length_drop]; omega)]
  · rw [Nat.min_eq_right (by omega : xs.length ≤ a), List.drop_eq_nil_of_le (Nat.le_refl _), List.drop_eq_nil_of_le (by omega : xs.length ≤ a)]
    simp
theorem cutD_len (xs : List PyData) (lo hi : Option Int) : (cutD xs lo hi).length ≤ xs.length := by
  unfold cutD
  rw [List.length_take, List.length_drop]
  omega
theorem cutD_mem {xs : List PyData} {lo hi : Option Int} {d : PyData} (h : d ∈ cutD xs lo hi) : d ∈ xs := List.mem_of_mem_drop (List.mem_of_mem_take h)
theorem put_eq {xs : List PyData} {k : Nat} {d : PyData} (h : k < xs.length) : cutD xs none (some (k : Int)) ++ [d] ++ cutD xs (some ((k : Int) + 1)) none = xs.set k d := by
  have e : ((k : Int) + 1) = ((k + 1 : Nat) : Int) := by omega
  rw [e, cut_lo, cut_hi, List.set_eq_take_append_cons_drop, if_pos h, List.append_assoc]
  rfl
theorem at_ints {ns : List Int} {i x : Int} (h : atI ns i = some x) : atI (ns.map PyData.int) i = some (.int x) := by
  unfold atI at h ⊢
  rw [List.length_map]
  cases q : ixN ns.length i with
  | none => rw [q] at h; cases h
  | some j =>
    rw [q] at h
    show (ns.map PyData.int)[j]? = _
    rw [List.getElem?_map, show ns[j]? = some x from h]; rfl
theorem at_nn {ns : List Int} {i : Int} (h0 : 0 ≤ i) (h1 : i < ns.length) : atI (ns.map PyData.int) i = some (.int (ns.getD i.toNat 0)) := by
  refine at_ints ?_
  unfold atI ixN
  rw [if_pos h0, if_pos h1]
  show ns[i.toNat]? = _
  rw [List.getD_eq_getElem?_getD, List.getElem?_eq_getElem (by omega)]; rfl
theorem at_last {ns : List Int} (h1 : 0 < ns.length) : atI (ns.map PyData.int) (-1) = some (.int (ns.getD (ns.length - 1) 0)) := by
  refine at_ints ?_
  unfold atI ixN
  rw [if_neg (by omega), if_pos (by omega)]
  show ns[_]? = _
  rw [show ((-1 : Int) + (ns.length : Int)).toNat = ns.length - 1 by omega, List.getD_eq_getElem?_getD, List.getElem?_eq_getElem (by omega)]; rfl
theorem szI {n : Nat} (h : n ≤ 100000) : n ≤ sizeLine := Nat.le_trans h (by decide)
theorem szlt {n : Nat} (h : n < 100000) : n < sizeLine := Nat.lt_of_lt_of_le h (by decide)
theorem mulR {a b : Int} (h1 : -(2 ^ 64) < b) (h2 : b < 2 ^ 64) : IntMulOk a b := IntMulOk.of_right (intBits_le_64 h1 h2)
theorem mulL {a b : Int} (h1 : -(2 ^ 64) < a) (h2 : a < 2 ^ 64) : IntMulOk a b := IntMulOk.of_left (intBits_le_64 h1 h2)
end Od

namespace Od
open PySem PySem.Spec PyProof.Rows L2

/-! ### the script's cells -/
def cell (ns : List Int) (k : Int) : Int := ns.getD k.toNat 0
def mix (c p m : Int) : Int := c * 48271 % p % m
def many (ns : List Int) : Int := 2 + mix (cell ns 0) 9973 7
def size (ns : List Int) : Int := many ns + mix (cell ns 0) 9967 (21 - many ns)
def state (ns : List Int) : List Int := (irange 0 (many ns).toNat).map fun k => mix (cell ns 1 + 31 * k) 9949 (size ns)
theorem mix_lo {c p m : Int} (h : 0 < m) : 0 ≤ mix c p m := Int.emod_nonneg _ (by omega)
theorem mix_hi {c p m : Int} (h : 0 < m) : mix c p m < m := Int.emod_lt_of_pos _ h
theorem many_b (ns : List Int) : 2 ≤ many ns ∧ many ns ≤ 8 := by
  have h1 := mix_lo (c := cell ns 0) (p := 9973) (m := 7) (by omega)
  have h2 := mix_hi (c := cell ns 0) (p := 9973) (m := 7) (by omega)
  unfold many
  omega
theorem size_b (ns : List Int) : many ns ≤ size ns ∧ size ns ≤ 20 := by
  have hm := many_b ns
  have h1 := mix_lo (c := cell ns 0) (p := 9967) (m := 21 - many ns) (by omega)
  have h2 := mix_hi (c := cell ns 0) (p := 9967) (m := 21 - many ns) (by omega)
  unfold size
  omega
theorem state_len (ns : List Int) : (state ns).length = (many ns).toNat := by unfold state; rw [List.length_map, irange_len]
def F__law_cell : List PyData → PyData → Prop := fun ds d => ∃ ns k, ds = [lI ns, .int k] ∧ 0 ≤ k ∧ d = .int (cell ns k)
def F__law_mix : List PyData → PyData → Prop := fun ds d => ∃ c p m, ds = [.int c, .int p, .int m] ∧ 0 < p ∧ 0 < m ∧ d = .int (mix c p m)
def F__law_size : List PyData → PyData → Prop := fun ds d => ∃ ns, ds = [lI ns] ∧ d = .int (size ns)
def F__law_state : List PyData → PyData → Prop := fun ds d => ∃ ns, ds = [lI ns] ∧ d = tI (state ns)
theorem L__law_cell : ∀ ds d, F__law_cell ds d → ds.length = 2 := fun _ _ ⟨_, _, e, _⟩ => by rw [e]; rfl
theorem L__law_mix : ∀ ds d, F__law_mix ds d → ds.length = 3 := fun _ _ ⟨_, _, _, e, _⟩ => by rw [e]; rfl
theorem L__law_size : ∀ ds d, F__law_size ds d → ds.length = 1 := fun _ _ ⟨_, e, _⟩ => by rw [e]; rfl
theorem L__law_state : ∀ ds d, F__law_state ds d → ds.length = 1 := fun _ _ ⟨_, e, _⟩ => by rw [e]; rfl
section
variable {K : PySem.W.Frag} {r : Rho} {t ta tb tc : TE} {X : XK} {ns : List Int} {k c p m : Int}
theorem cv_cell (h1 : EvD K ta r (lI ns)) (h2 : EvD K tb r (.int k)) (h0 : 0 ≤ k) : EvD K (tCall (spR K F__law_cell) [] X (tCons ta (tCons tb tNil))) r (.int (cell ns k)) := ev_call (ea_cons h1 (ea_cons h2 ea_nil)) ⟨ns, k, rfl, h0, rfl⟩
theorem cv_mix (h1 : EvD K ta r (.int c)) (h2 : EvD K tb r (.int p)) (h3 : EvD K tc r (.int m)) (hp : 0 < p) (hm : 0 < m) : EvD K (tCall (spR K F__law_mix) [] X (tCons ta (tCons tb (tCons tc tNil)))) r (.int (mix c p m)) := ev_call (ea_cons h1 (ea_cons h2 (ea_cons h3 ea_nil))) ⟨c, p, m, rfl, hp, hm, rfl⟩
theorem cv_size (h1 : EvD K ta r (lI ns)) : EvD K (tCall (spR K F__law_size) [] X (tCons ta tNil)) r (.int (size ns)) := ev_call (ea_cons h1 ea_nil) ⟨ns, rfl, rfl⟩
theorem cv_state (h1 : EvD K ta r (lI ns)) : EvD K (tCall (spR K F__law_state) [] X (tCons ta tNil)) r (tI (state ns)) := ev_call (ea_cons h1 ea_nil) ⟨ns, rfl, rfl⟩
end
/-! ### the ring -/
def hasMark (s : List Int) (h : Int) : Bool := if h = 0 then decide (s.getD 0 0 = s.getD (s.length - 1) 0) else !decide (s.getD h.toNat 0 = s.getD (h.toNat - 1) 0)
def marks (s : List Int) : List Int := (irange 0 s.length).filter (hasMark s)
def newNum (s : List Int) (z h : Int) : Int := if h = 0 then (s.getD 0 0 + 1) % z else s.getD (h.toNat - 1) 0
def moved (s : List Int) (z h : Int) : List Int := s.set h.toNat (newNum s z h)
def shifted (s : List Int) (z by_ : Int) : List Int := s.map fun x => (x + by_) % z
theorem marks_mem {s : List Int} {h : Int} : h ∈ marks s ↔ 0 ≤ h ∧ h < s.length ∧ hasMark s h = true := by
  unfold marks
  rw [List.mem_filter, irange_mem]
  constructor
  · rintro ⟨⟨h1, h2⟩, h3⟩; exact ⟨h1, by omega, h3⟩
  · rintro ⟨h1, h2, h3⟩; exact ⟨⟨h1, by omega⟩, h3⟩
theorem moved_len {s : List Int} {z h : Int} : (moved s z h).length = s.length := List.length_set
theorem shifted_len {s : List Int} {z h : Int} : (shifted s z h).length = s.length := List.length_map _
def F_has_mark : List PyData → PyData → Prop := fun ds d => ∃ s h, ds = [tI s, .int h] ∧ 0 ≤ h ∧ h < (s.length : Int) ∧ d = .bool (hasMark s h)
def F_marked : List PyData → PyData → Prop := fun ds d => ∃ s, ds = [tI s] ∧ s.length ≤ 1000 ∧ d = tI (marks s)
def F_moved : List PyData → PyData → Prop := fun ds d => ∃ s z h, ds = [tI s, .int z, .int h] ∧ h ∈ marks s ∧ 0 < z ∧ s.length ≤ 1000 ∧ d = tI (moved s z h)
def R_moved : List PyData → Prop := fun ds => ∃ s z h, ds = [tI s, .int z, .int h] ∧ h ∉ marks s ∧ s.length ≤ 1000
def F_shifted : List PyData → PyData → Prop := fun ds d => ∃ s z b, ds = [tI s, .int z, .int b] ∧ 0 < z ∧ s.length ≤ 1000 ∧ d = tI (shifted s z b)
theorem L_has_mark : ∀ ds d, F_has_mark ds d → ds.length = 2 := fun _ _ ⟨_, _, e, _⟩ => by rw [e]; rfl
theorem L_marked : ∀ ds d, F_marked ds d → ds.length = 1 := fun _ _ ⟨_, e, _⟩ => by rw [e]; rfl
theorem L_moved : ∀ ds d, F_moved ds d → ds.length = 3 := fun _ _ ⟨_, _, _, e, _⟩ => by rw [e]; rfl
theorem LR_moved : ∀ ds, R_moved ds → ds.length = 3 := fun _ ⟨_, _, _, e, _⟩ => by rw [e]; rfl
theorem L_shifted : ∀ ds d, F_shifted ds d → ds.length = 3 := fun _ _ ⟨_, _, _, e, _⟩ => by rw [e]; rfl
section
variable {K : PySem.W.Frag} {r : Rho} {t ta tb tc : TE} {X : XK} {s : List Int} {z h b : Int} {C : Addr}
theorem cv_has_mark (h1 : EvD K ta r (tI s)) (h2 : EvD K tb r (.int h)) (q0 : 0 ≤ h) (q1 : h < (s.length : Int)) : EvD K (tCall (spR K F_has_mark) [] X (tCons ta (tCons tb tNil))) r (.bool (hasMark s h)) := ev_call (ea_cons h1 (ea_cons h2 ea_nil)) ⟨s, h, rfl, q0, q1, rfl⟩
theorem cv_marked (h1 : EvD K ta r (tI s)) (q : s.length ≤ 1000) : EvD K (tCall (spR K F_marked) [] X (tCons ta tNil)) r (tI (marks s)) := ev_call (ea_cons h1 ea_nil) ⟨s, rfl, q, rfl⟩
theorem cv_moved (h1 : EvD K ta r (tI s)) (h2 : EvD K tb r (.int z)) (h3 : EvD K tc r (.int h)) (q : h ∈ marks s) (q1 : 0 < z) (q2 : s.length ≤ 1000) : EvD K (tCall (spX K C F_moved R_moved) [] X (tCons ta (tCons tb (tCons tc tNil)))) r (tI (moved s z h)) := ev_callX (ea_cons h1 (ea_cons h2 (ea_cons h3 ea_nil))) ⟨s, z, h, rfl, q, q1, q2, rfl⟩
theorem cv_shifted (h1 : EvD K ta r (tI s)) (h2 : EvD K tb r (.int z)) (h3 : EvD K tc r (.int b)) (q1 : 0 < z) (q2 : s.length ≤ 1000) : EvD K (tCall (spR K F_shifted) [] X (tCons ta (tCons tb (tCons tc tNil)))) r (tI (shifted s z b)) := ev_call (ea_cons h1 (ea_cons h2 (ea_cons h3 ea_nil))) ⟨s, z, b, rfl, q1, q2, rfl⟩
end
end Od

namespace Od
open PySem PySem.Spec PyProof.Rows L2

/-! ### lists -/
theorem ext_getD {l m : List Int} (hl : l.length = m.length) (h : ∀ i, i < l.length → l.getD i 0 = m.getD i 0) : l = m := by
  refine List.ext_getElem hl fun i h1 h2 => ?_
  have q := h i h1
  rw [List.getD_eq_getElem?_getD, List.getD_eq_getElem?_getD, List.getElem?_eq_getElem h1, List.getElem?_eq_getElem h2] at q
  exact q
theorem getD_set {l : List Int} {i j : Nat} {x : Int} (hi : i < l.length) : (l.set i x).getD j 0 = if j = i then x else l.getD j 0 := by
  rw [List.getD_eq_getElem?_getD, List.getD_eq_getElem?_getD, List.getElem?_set]
  by_cases h : j = i
  · subst h; rw [if_pos rfl, if_pos rfl, if_pos hi]; rfl
  · rw [if_neg h, if_neg (fun z => h z.symm)]
theorem getD_map {f : Int → Int} {l : List Int} {i : Nat} (hi : i < l.length) : (l.map f).getD i 0 = f (l.getD i 0) := by
  rw [List.getD_eq_getElem?_getD, List.getD_eq_getElem?_getD, List.getElem?_map, List.getElem?_eq_getElem hi]; rfl
theorem getD_irange {lo : Int} {n i : Nat} (hi : i < n) : (irange lo n).getD i 0 = lo + i := by
  rw [List.getD_eq_getElem?_getD, irange_get hi]; rfl
theorem getD_mapr {f : Int → Int} {n i : Nat} (hi : i < n) : ((irange 0 n).map f).getD i 0 = f i := by
  rw [getD_map (by rw [irange_len]; exact hi), getD_irange hi, Int.zero_add]
theorem getD_mem {l : List Int} {i : Nat} (hi : i < l.length) : l.getD i 0 ∈ l := by
  rw [List.getD_eq_getElem?_getD, List.getElem?_eq_getElem hi]
  exact List.getElem_mem hi
theorem sorted_ext : ∀ {l m : List Int}, l.Pairwise (· < ·) → m.Pairwise (· < ·) → (∀ x, x ∈ l ↔ x ∈ m) → l = m
  | [], [], _, _, _ => rfl
  | [], b :: m, _, _, h => by have := (h b).mpr List.mem_cons_self; cases this
  | a :: l, [], _, _, h => by have := (h a).mp List.mem_cons_self; cases this
  | a :: l, b :: m, h1, h2, h => by
    rw [List.pairwise_cons] at h1 h2
    have e : a = b := by
      rcases List.mem_cons.mp ((h a).mp List.mem_cons_self) with e | ha
      · exact e
      rcases List.mem_cons.mp ((h b).mpr List.mem_cons_self) with e | hb
      · exact e.symm
      have := h1.1 b hb
      have := h2.1 a ha
      omega
    subst e
    rw [sorted_ext h1.2 h2.2 fun x => ?_]
    constructor
    · intro hx
      rcases List.mem_cons.mp ((h x).mp (List.mem_cons_of_mem _ hx)) with e | hx'
      · subst e; have := h1.1 x hx; omega
      · exact hx'
    · intro hx
      rcases List.mem_cons.mp ((h x).mpr (List.mem_cons_of_mem _ hx)) with e | hx'
      · subst e; have := h2.1 x hx; omega
      · exact hx'
theorem irange_pw {lo : Int} {n : Nat} : (irange lo n).Pairwise (· < ·) := by
  unfold irange
  rw [List.pairwise_map]
  exact List.pairwise_lt_range.imp fun h => by omega
theorem filter_pw {lo : Int} {n : Nat} {p : Int → Bool} : ((irange lo n).filter p).Pairwise (· < ·) := irange_pw.filter p
theorem filter_single {n : Nat} {p : Int → Bool} {h : Int} (h0 : 0 ≤ h) (h1 : h < n) (hp : ∀ k : Int, 0 ≤ k → k < n → (p k = true ↔ k = h)) : (irange 0 n).filter p = [h] :=
  sorted_ext filter_pw (List.pairwise_singleton _ _) fun x => by
    rw [List.mem_filter, irange_mem, List.mem_singleton]
    constructor
    · rintro ⟨⟨a, b⟩, c⟩
      exact (hp x a (by omega)).mp c
    · rintro rfl
      exact ⟨⟨h0, by omega⟩, (hp x h0 h1).mpr rfl⟩
theorem irange_succ {n : Nat} : irange 0 (n + 1) = irange 0 n ++ [(n : Int)] := by
  unfold irange
  rw [List.range_succ, List.map_append]
  show _ ++ [0 + (n : Int)] = _
  rw [Int.zero_add]
theorem filt_yes {p : Int → Bool} {l : List Int} {x : Int} (h : p x = true) : (l ++ [x]).filter p = l.filter p ++ [x] := by
  rw [List.filter_append, List.filter_cons_of_pos h, List.filter_nil]
theorem filt_no {p : Int → Bool} {l : List Int} {x : Int} (h : p x = false) : (l ++ [x]).filter p = l.filter p := by
  rw [List.filter_append, List.filter_cons_of_neg (by rw [h]; exact Bool.false_ne_true), List.filter_nil, List.append_nil]
end Od

namespace Od
open PySem PySem.Spec PyProof.Rows L2

/-! ### kinds -/
def tyD : PyData → String
  | .none => "NoneType"
  | .bool _ => "bool"
  | .int _ => "int"
  | .str _ => "str"
  | .list _ => "list"
  | .tuple _ => "tuple"
  | .dict _ => "dict"
section
variable {K : PySem.W.Frag} {r : Rho} {d : PyData} {te ta tb : TE}
theorem dp_ty {H : Hp} {v : V} (h : Dp K H v d) : TyX K H v (.type (tyD d)) := by
  cases h with
  | non => exact .base .non
  | bl b => exact .base (.bl b)
  | int i => exact .base (.int i)
  | str x => exact .base (.str x)
  | lst hs _ =>
    rcases hs with (h | ⟨o, h⟩) | ⟨o, its, n, h1, h2, _⟩
    · exact .base (.lst h)
    · exact .base (.frz h)
    · exact .kList h1 h2
  | tup hs _ =>
    rcases hs with (h | ⟨o, h⟩) | ⟨o, its, n, h1, h2, _⟩
    · exact .base (.tup h)
    · exact .fTuple h
    · exact .kTuple h1 h2
theorem ev_isi {T : String} {b : Bool} (ha : EvH K ta r d) (hk : kitB (tyD d) T = some b) : EvD K (tCB (rIsi K) (tCons ta (tCons (tC (.ty T)) tNil))) r (.bool b) := fun B H s E Q k =>
  ha B H s E _ fun v B1 H1 x1 h1 => ⟨v, .ty T, _, _, b, rfl, .ty T, dp_ty h1, kit_ty hk, k _ B1 H1 x1 (.bl b)⟩
theorem kit_tt : kitB "tuple" "tuple" = some true := by decide +kernel
theorem ev_isN {a b : Bool} (ha : EvD K ta r (.bool a)) (hb : EvD K tb r (.bool b)) : EvD K (tOp rNotB ta tb) r (.bool (!decide (a = b))) := ev_flat mD ha hb fun x y B H i h1 h2 Q k => by
  cases h1; cases h2
  exact ⟨a, b, rfl, rfl, k _ (.bl _)⟩
theorem ev_listRg {n : Int} (ha : EvD K ta r (.int n)) (h0 : 0 ≤ n) (h1 : n ≤ 100000) : EvN K (tLstRg (tRg1 ta)) r ((irange 0 n.toNat).map .int) := fun B H s E Q k =>
  ha B H s E _ fun v B1 H1 x1 h => by
    cases h
    refine ⟨n, rfl, .of_le (by omega) (by omega) (by omega) (by omega), fun q hq => ?_⟩
    refine k q _ B1 _ (x1.trans (.skip x1.i hq)) (x1.h.free hq) upd_same (x1.i.free hq) ?_
    have e : rgV 0 n = (irange 0 n.toNat).map V.int := by
      unfold rgV irange
      rw [List.map_map, Int.sub_zero]; rfl
    rw [e]
    exact dpa_ints _
end
/-! ### a refusal, caught -/
structure Ye (K : PySem.W.Frag) (mg : Str → Option Value) (C R : Addr) : Prop where
  gR : mg "ReelError" = some (.ref R)
  bR : PySem.W.subIn K (.ref R) (.type "BaseException") = some true
  dR : PySem.W.hasDictIn K R = true
  tR : PySem.W.typeIn K (.ref R) = some (.type "type")
  sR : PySem.W.subIn K (.ref C) (.ref R) = some true
  sV : PySem.W.subIn K (.ref C) (.type "ValueError") = some true
  ex : ExcC K C
theorem Ye.exm {K : PySem.W.Frag} {mg : Str → Option Value} {C R : Addr} (Y : Ye K mg C R) : PySem.W.exmOne K (.ref C) (.ref R) = some true := PySem.W.exm_ref Y.bR Y.dR Y.tR Y.sR
theorem Ye.k1 {K : PySem.W.Frag} {C : Addr} : PySem.W.kitOne K (.ref C) (.ref C) = some true := if_pos (beq_self_eq_true _)
theorem kitMeta_VE : PySem.W.kitMeta "ValueError" = true := by decide +kernel
theorem Ye.k2 {K : PySem.W.Frag} {mg : Str → Option Value} {C R : Addr} (Y : Ye K mg C R) : PySem.W.kitOne K (.ref C) (.type "ValueError") = some true := by
  unfold PySem.W.kitOne
  rw [if_neg (by intro h; cases h)]
  show (if PySem.W.kitMeta "ValueError" = true then PySem.W.subIn K (.ref C) (.type "ValueError") else none) = some true
  rw [if_pos kitMeta_VE]
  exact Y.sV
/-- isinstance(e, c), e the exception that the suite holds: its class is D -/
def rIsF (K : PySem.W.Frag) (D a : Addr) (cls : Value) (d : Option Addr) : List V → Hp → VK → Prop := fun xs H Q => cls = .ref D ∧ d = none ∧ rIsE K D a xs H Q
theorem call_isF {X : Cx} {a D : Addr} {oe : Obj} {cls : Value} {d : Option Addr} {pn : List (Addr × Obj)} (C : ExcC X.K D) (hz : Zc cls d oe) (hf : ∃ vs, oe.data = .fields vs) : CallR (X.suite a ((a, oe) :: pn)) (.builtin "isinstance") (rIsF X.K D a cls d) := by
  intro pins s σ H xs us Q I rv h
  obtain ⟨rfl, rfl, h⟩ := h
  exact call_isE C hz hf pins s σ H xs us Q I rv h
theorem pe_callSC {X : Cx} {k : Nat} {x : Str} {ps : List Str} {sp : Sp} {p pos : Pos} {e : Expr} {es : List Expr} {t : TA} {W : WX} (C : CalOk X.prog X.w X.K X.mg X.base (L2.CX X.prog X.w) k x ps sp) (hr : Room k X.A) (hg : Gl X x) (tk : Takes X W)
    (ha : PA X (e :: es) t) (hdb : (x == ("__debug__" : Str)) = false := by decide) (he : starEach (e :: es) X.env = (false, eval e X.env) :: starEach es X.env := by rfl) (hpl : (backTo pos (starEach es X.env)).any (·.1) = false := by rfl) :
    PE X (.Call (.Name x p) (e :: es) [] pos) (tCallS sp (WE W) t) := by
  obtain ⟨f, fd, F, m, kp, b⟩ := C.ex
  exact pe_callS F hr hg m kp b (fun σ => passAt tk σ) ha hdb he hpl
/-- the suite: told = isinstance(e, NotNow) and isinstance(e, ValueError) -/
def tsR (K : PySem.W.Frag) (C : Addr) (te : Nat) (tg : Nat) : Addr → Value → Option Addr → TS := fun a cls d =>
  tAsg (tAndV (tCB (rIsF K C a cls d) (tCons (tVar te) (tCons (tC (.ref C)) tNil))) (tCB (rIsF K C a cls d) (tCons (tVar te) (tCons (tC (.ty "ValueError")) tNil)))) (gName tg)
section
variable {K : PySem.W.Frag} {H0 : Hp} {r : Rho} {ds : List PyData} {mg : Str → Option Value} {C R : Addr} {F : List PyData → PyData → Prop} {Rf : List PyData → Prop} {ta : TA} {W : EndD}
/-- a call that is refused, in a try that tells of it -/
theorem wp_refused {te tg : Nat} (Y : Ye K mg C R) (hne : te ≠ tg) (hlt : te < r.length) (ht : EvA K ta r ds) (hR : Rf ds) (q : W.nx ((r.set tg (.im (.bool true))).set te .no)) {B0 B H : Hp} {s : L2.St} {D : Ends} (E : EnvS K B0 H0 B H s r) (S : Sat K B0 H0 W D) (D' : Ends) :
    tDrop (tCallS (spX K C F Rf) (WE (wAs K (.ref R) te (tsR K C te tg) (fun _ _ _ _ => False) D)) ta) D' s H := by
  refine ht B H s E.en _ fun vs B1 H1 x1 h1 => ⟨B1, ds, x1.i, h1, .inr ⟨hR, fun H2 sm => ?_⟩⟩
  refine ⟨true, Y.exm, fun _ a _ => ?_, fun z => Bool.noConfusion z⟩
  have E2 : EnvS K B0 H0 B1 H2 s r := (E.mono x1).mono ⟨.refl _, sm, x1.i.trans sm, fun _ n _ => n⟩
  have hs : (s.set te (some (.ref a)))[te]? = some (some (.ref a)) := List.getElem?_set_self (by rw [E.en.len]; exact hlt)
  refine ⟨.ref a, hs, ⟨rfl, rfl, .ref C, .ref C, true, rfl, fun u h => h, Ye.k1, true, rfl, ?_⟩⟩
  refine ⟨.ref a, hs, ⟨rfl, rfl, .ty "ValueError", .type "ValueError", true, rfl, fun u h => h, Y.k2, ?_⟩⟩
  show D.nx (((s.set te (some (.ref a))).set tg (some (.bl true))).set te none) H2
  refine S.nx _ B1 H2 _ q ?_
  have e : (((s.set te (some (.ref a))).set tg (some (.bl true))).set te none) = (s.set tg (some (.bl true))).set te none := by
    rw [List.set_comm _ _ (fun z => hne z.symm), List.set_set]
    exact List.set_comm _ _ hne
  rw [e]
  have E3 := (E2.set_im (n := tg) (.bl true) : EnvS K B0 H0 B1 H2 (s.set tg (some (.bl true))) (r.set tg (.im (.bool true))))
  refine ⟨E3.st, E3.en.set_no, fun {m es l} p1 p2 => ?_⟩
  rcases get_set p1 with ⟨_, z, _⟩ | ⟨a1, a2⟩
  · cases z
  rw [List.getElem?_set_ne (fun z => a1 z.symm)] at p2
  exact E3.ow a2 p2
end
end Od

namespace Od
open PySem PySem.Spec PyProof.Rows L2

/-! ### nets -/
abbrev at_ (xs : List Int) (h : Int) : Int := xs.getD h.toNat 0
abbrev eD (p : Int × Int) : PyData := .tuple [.int p.1, .int p.2]
abbrev nD (m : Int) (es : List (Int × Int)) : PyData := .tuple [.int m, .tuple (es.map eD)]
structure Net (m : Int) (es : List (Int × Int)) : Prop where
  lo : 1 ≤ m
  hi : m ≤ 8
  ed : ∀ p ∈ es, 0 ≤ p.1 ∧ p.1 < p.2 ∧ p.2 < m
  ln : es.length ≤ 1000
  nd : es.Nodup
def nmany (ns : List Int) : Int := 1 + mix (cell ns 0) 9973 8
def nshare (ns : List Int) : Int := mix (cell ns 0) 9967 8
def npick (ns : List Int) (a b : Int) : Bool := decide (mix (cell ns 1 + 131 * a + 17 * b) 9949 9 < nshare ns)
def nrow (ns : List Int) (a : Int) : List (Int × Int) := ((irange (a + 1) (nmany ns - (a + 1)).toNat).filter (npick ns a)).map fun b => (a, b)
def nedges (ns : List Int) : List (Int × Int) := (irange 0 (nmany ns).toNat).flatMap (nrow ns)
theorem nmany_b (ns : List Int) : 1 ≤ nmany ns ∧ nmany ns ≤ 8 := by
  have h1 := mix_lo (c := cell ns 0) (p := 9973) (m := 8) (by omega)
  have h2 := mix_hi (c := cell ns 0) (p := 9973) (m := 8) (by omega)
  unfold nmany
  omega
theorem nrow_len (ns : List Int) {a : Int} (h : 0 ≤ a) : (nrow ns a).length ≤ 8 := by
  have := nmany_b ns
  unfold nrow
  rw [List.length_map]
  have h2 := List.length_filter_le (npick ns a) (irange (a + 1) (nmany ns - (a + 1)).toNat)
  rw [irange_len] at h2
  omega
theorem flat_len {f : Int → List (Int × Int)} {k : Nat} : ∀ {l : List Int}, (∀ a ∈ l, (f a).length ≤ k) → (l.flatMap f).length ≤ l.length * k
  | [], _ => by simp
  | a :: l, h => by
    rw [List.flatMap_cons, List.length_append, List.length_cons, Nat.succ_mul]
    have := flat_len (l := l) fun b hb => h b (List.mem_cons_of_mem _ hb)
    have := h a List.mem_cons_self
    omega
theorem flat_nodup {f : Int → List (Int × Int)} (h1 : ∀ a, (f a).Nodup) (h2 : ∀ a, ∀ p ∈ f a, p.1 = a) : ∀ {l : List Int}, l.Nodup → (l.flatMap f).Nodup
  | [], _ => List.Pairwise.nil
  | a :: l, h => by
    rw [List.nodup_cons] at h
    rw [List.flatMap_cons, List.nodup_append]
    refine ⟨h1 a, flat_nodup h1 h2 h.2, fun p hp q hq e => ?_⟩
    obtain ⟨b, hb, hqb⟩ := List.mem_flatMap.mp hq
    have e1 := h2 a p hp
    have e2 := h2 b q hqb
    rw [← e, e1] at e2
    exact h.1 (by rw [e2]; exact hb)
theorem nedges_nodup (ns : List Int) : (nedges ns).Nodup := by
  refine flat_nodup (fun a => ?_) (fun a p hp => ?_) (irange_pw.imp fun h => by omega)
  · unfold nrow
    refine List.Pairwise.map _ (fun x y (h : x < y) e => ?_) filter_pw
    have : x = y := congrArg Prod.snd e
    omega
  · obtain ⟨b, hb, rfl⟩ := List.mem_map.mp hp
    rfl
theorem net_net (ns : List Int) : Net (nmany ns) (nedges ns) := by
  have hm := nmany_b ns
  refine ⟨hm.1, hm.2, fun p hp => ?_, ?_, nedges_nodup ns⟩
  · obtain ⟨a, ha, hp⟩ := List.mem_flatMap.mp hp
    have ha' := irange_mem.mp ha
    obtain ⟨b, hb, rfl⟩ := List.mem_map.mp hp
    have hb' := irange_mem.mp (List.mem_filter.mp hb).1
    show 0 ≤ a ∧ a < b ∧ b < nmany ns
    omega
  · have := flat_len (f := nrow ns) (k := 8) (l := irange 0 (nmany ns).toNat) fun a ha => nrow_len ns (by have := irange_mem.mp ha; omega)
    rw [irange_len] at this
    unfold nedges
    omega
def F__law_net : List PyData → PyData → Prop := fun ds d => ∃ ns, ds = [lI ns] ∧ d = nD (nmany ns) (nedges ns)
theorem L__law_net : ∀ ds d, F__law_net ds d → ds.length = 1 := fun _ _ ⟨_, e, _⟩ => by rw [e]; rfl
/-! ### neighbours -/
def nbe (h : Int) (p : Int × Int) : List Int := (if p.1 = h then [p.2] else []) ++ (if p.2 = h then [p.1] else [])
def nbr (es : List (Int × Int)) (h : Int) : List Int := es.flatMap (nbe h)
def nb (es : List (Int × Int)) (h : Int) : List Int := isort (nbr es h)
theorem nb_mem {es : List (Int × Int)} {h x : Int} : x ∈ nb es h ↔ (h, x) ∈ es ∨ (x, h) ∈ es := by
  unfold nb nbr
  rw [(isort_perm _).mem_iff, List.mem_flatMap]
  constructor
  · rintro ⟨⟨a, b⟩, hp, hx⟩
    unfold nbe at hx
    rcases List.mem_append.mp hx with q | q
    · split at q
      · rename_i e
        rw [List.mem_singleton] at q
        dsimp only at e q
        subst e q
        exact .inl hp
      · cases q
    · split at q
      · rename_i e
        rw [List.mem_singleton] at q
        dsimp only at e q
        subst e q
        exact .inr hp
      · cases q
  · rintro (hp | hp)
    · refine ⟨_, hp, ?_⟩
      unfold nbe
      rw [if_pos rfl]
      exact List.mem_append_left _ List.mem_cons_self
    · refine ⟨_, hp, ?_⟩
      unfold nbe
      rw [if_pos rfl]
      exact List.mem_append_right _ List.mem_cons_self
theorem nb_sym {es : List (Int × Int)} {h x : Int} : x ∈ nb es h ↔ h ∈ nb es x := by
  rw [nb_mem, nb_mem]; exact Or.comm
theorem Net.nb {m : Int} {es : List (Int × Int)} (N : Net m es) {h x : Int} (hx : x ∈ Od.nb es h) : 0 ≤ x ∧ x < m ∧ x ≠ h ∧ 0 ≤ h ∧ h < m := by
  rcases nb_mem.mp hx with q | q
  · have := N.ed _ q
    dsimp only at this
    omega
  · have := N.ed _ q
    dsimp only at this
    omega
theorem nbr_len {es : List (Int × Int)} {h : Int} : (nbr es h).length ≤ 2 * es.length := by
  unfold nbr
  induction es with
  | nil => simp
  | cons p es ih =>
    rw [List.flatMap_cons, List.length_append, List.length_cons]
    have : (nbe h p).length ≤ 2 := by
      unfold nbe
      rw [List.length_append]
      split <;> split <;> simp
    omega
theorem nb_len {es : List (Int × Int)} {h : Int} : (nb es h).length ≤ 2 * es.length := by
  unfold nb
  rw [(isort_perm _).length_eq]
  exact nbr_len
theorem near_perm (es : List (Int × Int)) (h : Int) : (((es.filter fun p => decide (p.1 = h)).map (·.2)) ++ ((es.filter fun p => decide (p.2 = h)).map (·.1))).Perm (nbr es h) := by
  induction es with
  | nil => exact .refl _
  | cons p es ih =>
    unfold nbr
    rw [List.flatMap_cons]
    refine List.Perm.trans ?_ (List.Perm.append_left _ ih)
    unfold nbe
    by_cases h1 : p.1 = h
    · rw [List.filter_cons_of_pos (by simp [h1]), if_pos h1]
      by_cases h2 : p.2 = h
      · rw [List.filter_cons_of_pos (by simp [h2]), if_pos h2]
        show (p.2 :: (_ ++ (p.1 :: _))).Perm ([p.2] ++ [p.1] ++ _)
        refine .cons _ ?_
        exact List.perm_middle
      · rw [List.filter_cons_of_neg (by simp [h2]), if_neg h2]
        exact .refl _
    · rw [List.filter_cons_of_neg (by simp [h1]), if_neg h1]
      by_cases h2 : p.2 = h
      · rw [List.filter_cons_of_pos (by simp [h2]), if_pos h2]
        exact List.perm_middle
      · rw [List.filter_cons_of_neg (by simp [h2]), if_neg h2]
        exact .refl _
theorem nbr_nodup : ∀ {es : List (Int × Int)} {h : Int}, es.Nodup → (∀ p ∈ es, p.1 < p.2) → (nbr es h).Nodup
  | [], _, _, _ => List.Pairwise.nil
  | p :: es, h, nd, hlt => by
    rw [List.nodup_cons] at nd
    unfold nbr
    rw [List.flatMap_cons, List.nodup_append]
    have hp := hlt p List.mem_cons_self
    refine ⟨?_, nbr_nodup nd.2 fun q hq => hlt q (List.mem_cons_of_mem _ hq), fun x hx y hy e => ?_⟩
    · unfold nbe
      split <;> split <;> simp
      rename_i a b
      omega
    · subst e
      obtain ⟨q, hq, hxq⟩ := List.mem_flatMap.mp hy
      have hq' := hlt q (List.mem_cons_of_mem _ hq)
      have key : ∀ z : Int × Int, x ∈ nbe h z → (z.1 = h ∧ z.2 = x) ∨ (z.2 = h ∧ z.1 = x) := fun z hz => by
        unfold nbe at hz
        rcases List.mem_append.mp hz with w | w
        · split at w
          · rename_i a; exact .inl ⟨a, (List.mem_singleton.mp w).symm⟩
          · cases w
        · split at w
          · rename_i a; exact .inr ⟨a, (List.mem_singleton.mp w).symm⟩
          · cases w
      have k1 := key p hx
      have k2 := key q hxq
      have e1 : p.1 = q.1 := by omega
      have e2 : p.2 = q.2 := by omega
      exact nd.1 (by rw [show p = q from Prod.ext e1 e2]; exact hq)
theorem Net.nb_nodup {m : Int} {es : List (Int × Int)} (N : Net m es) (h : Int) : (Od.nb es h).Nodup :=
  ((isort_perm _).nodup_iff).mpr (nbr_nodup N.nd fun p hp => (N.ed p hp).2.1)
theorem Net.nb_pw {m : Int} {es : List (Int × Int)} (N : Net m es) (h : Int) : (Od.nb es h).Pairwise (· < ·) := by
  have h1 : (Od.nb es h).Pairwise (· ≤ ·) := isort_pw _
  have h2 := N.nb_nodup h
  exact (h1.and h2).imp fun ⟨a, b⟩ => by omega
def F_neighbours : List PyData → PyData → Prop := fun ds d => ∃ m es h, ds = [nD m es, .int h] ∧ es.length ≤ 1000 ∧ d = tI (nb es h)
def F__law_near : List PyData → PyData → Prop := fun ds d => ∃ m es h, ds = [nD m es, .int h] ∧ es.length ≤ 1000 ∧ d = lI (nb es h)
def F_put : List PyData → PyData → Prop := fun ds d => ∃ xs k v, ds = [tI xs, .int k, .int v] ∧ 0 ≤ k ∧ k < (xs.length : Int) ∧ xs.length ≤ 1000 ∧ d = tI (xs.set k.toNat v)
theorem L_neighbours : ∀ ds d, F_neighbours ds d → ds.length = 2 := fun _ _ ⟨_, _, _, e, _⟩ => by rw [e]; rfl
theorem L__law_near : ∀ ds d, F__law_near ds d → ds.length = 2 := fun _ _ ⟨_, _, _, e, _⟩ => by rw [e]; rfl
theorem L_put : ∀ ds d, F_put ds d → ds.length = 3 := fun _ _ ⟨_, _, _, e, _⟩ => by rw [e]; rfl
section
variable {K : PySem.W.Frag} {r : Rho} {t ta tb tc : TE} {X : XK} {ns xs : List Int} {m h k v : Int} {es : List (Int × Int)}
theorem cv_net (h1 : EvD K ta r (lI ns)) : EvD K (tCall (spR K F__law_net) [] X (tCons ta tNil)) r (nD (nmany ns) (nedges ns)) := ev_call (ea_cons h1 ea_nil) ⟨ns, rfl, rfl⟩
theorem cv_nb (h1 : EvD K ta r (nD m es)) (h2 : EvD K tb r (.int h)) (q : es.length ≤ 1000) : EvD K (tCall (spR K F_neighbours) [] X (tCons ta (tCons tb tNil))) r (tI (nb es h)) := ev_call (ea_cons h1 (ea_cons h2 ea_nil)) ⟨m, es, h, rfl, q, rfl⟩
theorem cv_near (h1 : EvD K ta r (nD m es)) (h2 : EvD K tb r (.int h)) (q : es.length ≤ 1000) : EvD K (tCall (spR K F__law_near) [] X (tCons ta (tCons tb tNil))) r (lI (nb es h)) := ev_call (ea_cons h1 (ea_cons h2 ea_nil)) ⟨m, es, h, rfl, q, rfl⟩
theorem cv_put (h1 : EvD K ta r (tI xs)) (h2 : EvD K tb r (.int k)) (h3 : EvD K tc r (.int v)) (q0 : 0 ≤ k) (q1 : k < (xs.length : Int)) (q2 : xs.length ≤ 1000) : EvD K (tCall (spR K F_put) [] X (tCons ta (tCons tb (tCons tc tNil)))) r (tI (xs.set k.toNat v)) := ev_call (ea_cons h1 (ea_cons h2 (ea_cons h3 ea_nil))) ⟨xs, k, v, rfl, q0, q1, q2, rfl⟩
/-- net[0], net[1] -/
theorem ev_n0 (h1 : EvD K ta r (nD m es)) : EvD K (tOp (rIxT K) ta (tC (.int 0))) r (.int m) := ev_ixT h1 ev_int rfl
theorem ev_n1 (h1 : EvD K ta r (nD m es)) : EvD K (tOp (rIxT K) ta (tC (.int 1))) r (.tuple (es.map eD)) := ev_ixT h1 ev_int rfl
end
/-! ### counting -/
theorem nodup_len : ∀ {n : Nat} {l : List Int}, l.Nodup → (∀ x ∈ l, 0 ≤ x ∧ x < n) → l.length ≤ n
  | 0, l, _, h => by
    cases l with
    | nil => exact Nat.le_refl _
    | cons a l => have := h a List.mem_cons_self; omega
  | n + 1, l, nd, h => by
    by_cases hn : (n : Int) ∈ l
    · have h1 := nodup_len (n := n) (l := l.erase (n : Int)) (nd.erase _) fun x hx => by
        have h2 := h x (List.mem_of_mem_erase hx)
        have h3 : x ≠ n := fun e => by
          rw [e] at hx
          exact (List.Nodup.not_mem_erase nd) hx
        omega
      rw [List.length_erase_of_mem hn] at h1
      omega
    · have h1 := nodup_len (n := n) (l := l) nd fun x hx => by
        have h2 := h x hx
        have h3 : x ≠ n := fun e => hn (e ▸ hx)
        omega
      omega
theorem Net.nb_small {m : Int} {es : List (Int × Int)} (N : Net m es) (h : Int) : ((Od.nb es h).length : Int) < m := by
  have hm := N.lo
  cases q : Od.nb es h with
  | nil => simp; omega
  | cons a l =>
    have ha : a ∈ Od.nb es h := by rw [q]; exact List.mem_cons_self
    have hh := N.nb ha
    have h1 : (h :: Od.nb es h).Nodup := List.nodup_cons.mpr ⟨fun z => (N.nb z).2.2.1 rfl, N.nb_nodup h⟩
    have h2 := nodup_len (n := m.toNat) h1 fun x hx => by
      rcases List.mem_cons.mp hx with e | e
      · rw [e]; omega
      · have := N.nb e; omega
    rw [List.length_cons] at h2
    rw [q] at h2
    omega
theorem irange_nodup {lo : Int} {n : Nat} : (irange lo n).Nodup := irange_pw.imp fun h => by omega
theorem sub_len : ∀ {l k : List Int}, l.Nodup → (∀ x ∈ l, x ∈ k) → l.length ≤ k.length
  | [], _, _, _ => Nat.zero_le _
  | a :: l, k, nd, h => by
    rw [List.nodup_cons] at nd
    have ha := h a List.mem_cons_self
    have h1 := sub_len (l := l) (k := k.erase a) nd.2 fun x hx => (List.mem_erase_of_ne (fun (e : x = a) => nd.1 (by rw [← e]; exact hx))).mpr (h x (List.mem_cons_of_mem _ hx))
    rw [List.length_erase_of_mem ha] at h1
    have := List.length_pos_of_mem ha
    rw [List.length_cons]
    omega
/-- of n + 1 numbers one at least is not among n -/
theorem pigeon {l : List Int} {n : Nat} (h : l.length < n) : ∃ c, c ∈ irange 0 n ∧ c ∉ l := by
  refine Decidable.byContradiction fun hc => ?_
  have hall : ∀ c ∈ irange 0 n, c ∈ l := fun c hm => Decidable.byContradiction fun q => hc ⟨c, hm, q⟩
  have : (irange 0 n).length ≤ l.length := sub_len irange_nodup hall
  rw [irange_len] at this
  omega
theorem irange_succ' {lo : Int} {n : Nat} : irange lo (n + 1) = irange lo n ++ [lo + (n : Int)] := by
  unfold irange
  rw [List.range_succ, List.map_append]; rfl
theorem ixN_nn {n : Nat} {k : Int} (h0 : 0 ≤ k) (h1 : k < n) : ixN n k = some k.toNat := by
  unfold ixN
  rw [if_pos h0, if_pos h1]
theorem nbr_take {es : List (Int × Int)} {h : Int} {i : Nat} {p : Int × Int} (hp : es[i]? = some p) : nbr (es.take (i + 1)) h = nbr (es.take i) h ++ nbe h p := by
  unfold nbr
  rw [List.take_add_one, hp, List.flatMap_append]
  congr 1
  show List.flatMap (nbe h) [p] = nbe h p
  rw [List.flatMap_cons, List.flatMap_nil, List.append_nil]
/-- drawn numbers -/
def nums0 (ns : List Int) (k p z : Int) : List Int := (irange 0 (nmany ns).toNat).map fun i => mix (cell ns k + 31 * i) p z
theorem nums0_len {ns : List Int} {k p z : Int} : ((nums0 ns k p z).length : Int) = nmany ns := by
  have := nmany_b ns
  unfold nums0
  rw [List.length_map, irange_len]; omega
theorem nums0_at {ns : List Int} {k p z h : Int} (hz : 0 < z) (h0 : 0 ≤ h) (h1 : h < nmany ns) : 0 ≤ at_ (nums0 ns k p z) h ∧ at_ (nums0 ns k p z) h < z := by
  unfold at_ nums0
  rw [getD_mapr (by omega)]
  exact ⟨mix_lo hz, mix_hi hz⟩
theorem map_get {α : Type} {f : α → PyData} {l : List α} {i : Nat} {d : PyData} (h : (l.map f)[i]? = some d) : ∃ a, l[i]? = some a ∧ d = f a ∧ i < l.length := by
  rw [List.getElem?_map] at h
  cases q : l[i]? with
  | none => rw [q] at h; cases h
  | some a =>
    rw [q] at h
    exact ⟨a, rfl, (Option.some.inj h).symm, (List.getElem?_eq_some_iff.mp q).1⟩
theorem at_nat {ns : List Int} {i : Nat} (h1 : i < ns.length) : atI (ns.map PyData.int) (i : Int) = some (.int (ns.getD i 0)) := by
  have := at_nn (ns := ns) (i := (i : Int)) (by omega) (by omega)
  rw [Int.toNat_natCast] at this
  exact this
end Od

namespace Od
open PySem PySem.Spec PyProof.Rows L2

/-! ### k01: states and nets told from other things -/
section
variable {K : PySem.W.Frag} {r : Rho} {ta tb tc te : TE} {i j k : Int} {ds es : List PyData} {d : PyData}
theorem ev_isB {a b : Bool} (ha : EvD K ta r (.bool a)) (hb : EvD K tb r (.bool b)) : EvD K (tOp rIsB ta tb) r (.bool (decide (a = b))) := ev_flat mD ha hb fun x y B H i h1 h2 Q k => by
  cases h1; cases h2
  exact ⟨a, b, rfl, rfl, k _ (.bl _)⟩
theorem ev_chainLe (ha : EvD K ta r (.int i)) (hb : EvD K tb r (.int j)) (hc : EvD K tc r (.int k)) : EvD K (tChain (rI0 fun i j => .bl (decide (i ≤ j))) (rI0 fun i j => .bl (decide (i ≤ j))) ta tb tc) r (.bool (decide (i ≤ j) && decide (j ≤ k))) := fun B H s E Q kk =>
  ha B H s E _ fun x B1 H1 x1 h1 => hb B1 H1 s (E.mono x1) _ fun y B2 H2 x2 h2 => by
    cases h1; cases h2
    refine ⟨i, j, rfl, rfl, decide (i ≤ j), rfl, ?_⟩
    by_cases h : i ≤ j
    · rw [decide_eq_true h, if_pos rfl]
      refine hc B2 H2 s ((E.mono x1).mono x2) _ fun z B3 H3 x3 h3 => ?_
      cases h3
      refine ⟨j, k, rfl, rfl, kk _ B3 H3 ((x1.trans x2).trans x3) ?_⟩
      rw [decide_eq_true h, Bool.true_and]; exact .bl _
    · rw [decide_eq_false h, if_neg Bool.false_ne_true]
      refine kk _ B2 H2 (x1.trans x2) ?_
      rw [decide_eq_false h, Bool.false_and]; exact .bl _
theorem dpa_rept {H : Hp} {xs : List V} (h : DpAll K H xs ds) : ∀ n : Nat, DpAll K H (List.replicate n xs).flatten (List.replicate n ds).flatten
  | 0 => .nil
  | n + 1 => by
    rw [List.replicate_succ, List.replicate_succ, List.flatten_cons, List.flatten_cons]
    exact dpa_app h (dpa_rept h n)
theorem ev_rep (ha : EvD K ta r (.tuple ds)) (hb : EvD K tb r (.int k)) (hn : ds ≠ []) (h1 : 2 ≤ k) (h2 : k ≤ 1000) (h3 : ds.length ≤ 1000) : EvD K (tOp (rRepT K) ta tb) r (.tuple (List.replicate k.toNat ds).flatten) :=
  ev_op mD ha hb fun x y B H z p1 p2 Q kk => by
    cases p2
    cases p1 with
    | tup q2 q3 => exact ⟨_, k, _, rfl, rfl, sqt_mono z q2, fun e => hn ((dpa_nil_iff q3).mp e), h1, h2, by rw [dpa_len q3]; exact h3, fun p hp => kk _ _ _ (.new z hp) (.tup (.of upd_same) (dpa_mono (same_new (z.free hp)) _ _ (dpa_rept q3 _)))⟩
theorem ev_ltT {ns ms : List Int} (ha : EvD K ta r (tI ns)) (hb : EvD K tb r (tI ms)) : EvD K (tOp (rLtT K) ta tb) r (.bool (HT.lexLt ns ms)) :=
  ev_flat mD ha hb fun x y B H z h1 h2 Q k => by
    cases h1 with
    | tup q2 q3 =>
      cases h2 with
      | tup p2 p3 =>
        have e := dpa_ints_inv q3
        have e' := dpa_ints_inv p3
        subst e e'
        exact ⟨_, _, ns, ms, rfl, rfl, sqt_mono z q2, sqt_mono z p2, k _ (.bl _)⟩
/-- xs[:k] + (d,) + xs[k + 1:] -/
theorem ev_putx {ts tk tx : TE} (hs : EvD K ts r (.tuple ds)) (hk : EvD K tk r (.int k)) (hx : EvD K tx r d) (h0 : 0 ≤ k) (h1 : k < (ds.length : Int)) (hl : ds.length ≤ 1000) :
    EvD K (tOp (rCatA K) (tOp (rCatA K) (tSl (rSlA K) ts tNoPart (tPart tk)) (tTup (tCons tx tNil))) (tSl (rSlA K) ts (tPart (tOp (rI0 fun i j => V.int (i + j)) tk (tC (V.int 1)))) tNoPart)) r (.tuple (ds.set k.toNat d)) := by
  refine ev_is (ev_catT (ev_catT (ev_slT hs eo_none (eo_some hk)) (ev_tup (ea_cons hx ea_nil) (szI (by show (1 : Nat) ≤ 100000; decide))) ?_) (ev_slT hs (eo_some (ev_add hk ev_int)) eo_none) ?_) ?_
  · exact szI (by have := cutD_len ds none (some k); show _ + 1 ≤ _; omega)
  · exact szI (by have h1 := cutD_len ds none (some k); have h2 := cutD_len ds (some (k + 1)) none; rw [List.length_append]; show _ + 1 + _ ≤ _; omega)
  · have e : k = ((k.toNat : Nat) : Int) := by omega
    have q := put_eq (xs := ds) (k := k.toNat) (d := d) (by omega)
    rw [← e] at q
    rw [q]
end
theorem at_dd {ds : List PyData} {i : Int} (h0 : 0 ≤ i) (h1 : i < (ds.length : Int)) : atI ds i = some (ds.getD i.toNat .none) := by
  unfold atI ixN
  rw [if_pos h0, if_pos h1]
  show ds[i.toNat]? = _
  rw [List.getD_eq_getElem?_getD, List.getElem?_eq_getElem (by omega)]; rfl
/-! #### kinds -/
def isIn : PyData → Bool | .int _ => true | .bool _ => true | _ => false
def isBo : PyData → Bool | .bool _ => true | _ => false
def isTu : PyData → Bool | .tuple _ => true | _ => false
theorem kit_in : ∀ d, kitB (tyD d) "int" = some (isIn d)
  | .none => (by decide +kernel : kitB "NoneType" "int" = some false)
  | .bool _ => (by decide +kernel : kitB "bool" "int" = some true)
  | .int _ => (by decide +kernel : kitB "int" "int" = some true)
  | .str _ => (by decide +kernel : kitB "str" "int" = some false)
  | .list _ => (by decide +kernel : kitB "list" "int" = some false)
  | .tuple _ => (by decide +kernel : kitB "tuple" "int" = some false)
  | .dict _ => (by decide +kernel : kitB "dict" "int" = some false)
theorem kit_bo : ∀ d, kitB (tyD d) "bool" = some (isBo d)
  | .none => (by decide +kernel : kitB "NoneType" "bool" = some false)
  | .bool _ => (by decide +kernel : kitB "bool" "bool" = some true)
  | .int _ => (by decide +kernel : kitB "int" "bool" = some false)
  | .str _ => (by decide +kernel : kitB "str" "bool" = some false)
  | .list _ => (by decide +kernel : kitB "list" "bool" = some false)
  | .tuple _ => (by decide +kernel : kitB "tuple" "bool" = some false)
  | .dict _ => (by decide +kernel : kitB "dict" "bool" = some false)
theorem kit_tu : ∀ d, kitB (tyD d) "tuple" = some (isTu d)
  | .none => (by decide +kernel : kitB "NoneType" "tuple" = some false)
  | .bool _ => (by decide +kernel : kitB "bool" "tuple" = some false)
  | .int _ => (by decide +kernel : kitB "int" "tuple" = some false)
  | .str _ => (by decide +kernel : kitB "str" "tuple" = some false)
  | .list _ => (by decide +kernel : kitB "list" "tuple" = some false)
  | .tuple _ => (by decide +kernel : kitB "tuple" "tuple" = some true)
  | .dict _ => (by decide +kernel : kitB "dict" "tuple" = some false)
theorem isTu_tuple : ∀ {d : PyData}, isTu d = true → ∃ ds, d = .tuple ds
  | .tuple ds, _ => ⟨ds, rfl⟩
def isNumD (d : PyData) (m : Int) : Bool := match d with | .int i => decide (0 ≤ i) && decide (i ≤ m) | _ => false
theorem isNumD_int : ∀ {d : PyData} {m : Int}, isNumD d m = true → ∃ i, d = .int i ∧ 0 ≤ i ∧ i ≤ m
  | .int i, m, h => by
    unfold isNumD at h
    rw [Bool.and_eq_true] at h
    exact ⟨i, rfl, of_decide_eq_true h.1, of_decide_eq_true h.2⟩
def isStateD (d : PyData) (z : Int) : Bool := match d with | .tuple ds => decide (2 ≤ ds.length) && decide (ds.length ≤ 8) && decide ((ds.length : Int) ≤ z) && ds.all (fun d => isNumD d (z - 1)) | _ => false
def ltD (a b : PyData) : Bool := match a, b with | .int x, .int y => decide (x < y) | _, _ => false
def isEdgeD (d : PyData) (m : Int) : Bool := match d with | .tuple [a, b] => isNumD a (m - 1) && (isNumD b (m - 1) && ltD a b) | _ => false
theorem isEdgeD_pair {d : PyData} {m : Int} (h : isEdgeD d m = true) : ∃ a b, d = eD (a, b) ∧ 0 ≤ a ∧ a < b ∧ b < m := by
  unfold isEdgeD at h
  split at h
  · rename_i a b
    rw [Bool.and_eq_true, Bool.and_eq_true] at h
    obtain ⟨i, rfl, h1, h2⟩ := isNumD_int h.1
    obtain ⟨j, rfl, h3, h4⟩ := isNumD_int h.2.1
    have : i < j := of_decide_eq_true h.2.2
    exact ⟨i, j, rfl, h1, this, by omega⟩
  · cases h
def pairLt (a b : PyData) : Bool := match a, b with | .tuple [.int a, .int b], .tuple [.int c, .int d] => HT.lexLt [a, b] [c, d] | _, _ => false
def sortedD (es : List PyData) : Bool := (irange 1 (es.length - 1)).all fun k => pairLt (es.getD (k - 1).toNat .none) (es.getD k.toNat .none)
def isNetD (d : PyData) : Bool := match d with | .tuple [.int m, .tuple es] => isNumD (.int m) 8 && !decide (m = 0) && es.all (fun e => isEdgeD e m) && sortedD es | _ => false
def small (d : PyData) : Prop := ∀ a es, d = .tuple [a, .tuple es] → es.length ≤ 1000
def F_is_number : List PyData → PyData → Prop := fun ds d => ∃ x m, ds = [x, .int m] ∧ d = .bool (isNumD x m)
def F_is_state : List PyData → PyData → Prop := fun ds d => ∃ x z, ds = [x, .int z] ∧ d = .bool (isStateD x z)
def F_is_edge : List PyData → PyData → Prop := fun ds d => ∃ x z, ds = [x, .int z] ∧ d = .bool (isEdgeD x z)
def F_is_net : List PyData → PyData → Prop := fun ds d => ∃ x, ds = [x] ∧ small x ∧ d = .bool (isNetD x)
theorem L_is_number : ∀ ds d, F_is_number ds d → ds.length = 2 := fun _ _ ⟨_, _, e, _⟩ => by rw [e]; rfl
theorem L_is_state : ∀ ds d, F_is_state ds d → ds.length = 2 := fun _ _ ⟨_, _, e, _⟩ => by rw [e]; rfl
theorem L_is_edge : ∀ ds d, F_is_edge ds d → ds.length = 2 := fun _ _ ⟨_, _, e, _⟩ => by rw [e]; rfl
theorem L_is_net : ∀ ds d, F_is_net ds d → ds.length = 1 := fun _ _ ⟨_, e, _⟩ => by rw [e]; rfl
/-! #### the spoilt ones -/
def badStates (s : List Int) (z : Int) (a : Nat) : List PyData :=
  [lI s, .tuple ((s.map PyData.int).set a (.int z)), .tuple ((s.map PyData.int).set a (.int (-1))), .tuple ((s.map PyData.int).take 1), .none,
   .tuple ((s.map PyData.int).set a (.bool true)), .tuple ((s.map PyData.int).set a (.str "0")), .tuple [], .int 7, .str "ring", .tuple ((s.map PyData.int).set a .none)]
def badNets (m : Int) (es : List (Int × Int)) : List PyData :=
  [.tuple [.int m, .list (es.map eD)], .list [.int m, .tuple (es.map eD)], .tuple [.int 0, .tuple []], .tuple [.int 9, .tuple (es.map eD)], .tuple [.bool true, .tuple []],
   .tuple [.int m], .tuple [.int m, .tuple (es.map eD), .int 0], .none, .int 7,
   .tuple [.int m, .tuple (es.map eD ++ [eD (0, m)])], .tuple [.int m, .tuple [eD (0, 0)]], .tuple [.int m, .tuple [eD (1, 0)]], .tuple [.int m, .tuple (es.map eD ++ [.list [.int 0, .int 1]])],
   .tuple [.int m, .tuple [eD (-1, 0)]], .tuple [.int m, .tuple [.int 0]], .tuple [.int m, .tuple [.tuple [.int 0, .int 1, .int 2]]], .tuple [.int 3, .tuple [eD (0, 1), eD (0, 1)]], .tuple [.int 3, .tuple [eD (1, 2), eD (0, 1)]],
   .tuple [.int 3, .tuple [.tuple [.int 0, .bool true]]], .tuple [.int 3, .tuple [.tuple [.int 0, .str "1"]]], .tuple [.str "3", .tuple []], .tuple [.int m, .none]]
def F__law_bad_state : List PyData → PyData → Prop := fun ds d => ∃ s z c, ds = [tI s, .int z, .int c] ∧ 0 < s.length ∧ s.length ≤ 1000 ∧ d = (badStates s z (c % (s.length : Int)).toNat).getD (c / 8 % 11).toNat .none
def F__law_bad_net : List PyData → PyData → Prop := fun ds d => ∃ m es c, ds = [nD m es, .int c] ∧ es.length ≤ 900 ∧ d = (badNets m es).getD (c % 22).toNat .none
theorem L__law_bad_state : ∀ ds d, F__law_bad_state ds d → ds.length = 3 := fun _ _ ⟨_, _, _, e, _⟩ => by rw [e]; rfl
theorem L__law_bad_net : ∀ ds d, F__law_bad_net ds d → ds.length = 2 := fun _ _ ⟨_, _, _, e, _⟩ => by rw [e]; rfl
def F_law : List PyData → PyData → Prop := fun ds d => ∃ ns, ds = [lI ns] ∧ ns.length ≤ 63 ∧ (∀ z ∈ ns, Builtin.Int.intBits z ≤ 1048576) ∧ d = .bool true
theorem L_law : ∀ ds d, F_law ds d → ds.length = 1 := fun _ _ ⟨_, e, _⟩ => by rw [e]; rfl
section
variable {K : PySem.W.Frag} {r : Rho} {ta tb tc : TE} {X : XK} {x : PyData} {m z c : Int} {s : List Int} {es : List (Int × Int)}
theorem cv_is_number (h1 : EvD K ta r x) (h2 : EvD K tb r (.int m)) : EvD K (tCall (spR K F_is_number) [] X (tCons ta (tCons tb tNil))) r (.bool (isNumD x m)) := ev_call (ea_cons h1 (ea_cons h2 ea_nil)) ⟨x, m, rfl, rfl⟩
theorem cv_is_state (h1 : EvD K ta r x) (h2 : EvD K tb r (.int m)) : EvD K (tCall (spR K F_is_state) [] X (tCons ta (tCons tb tNil))) r (.bool (isStateD x m)) := ev_call (ea_cons h1 (ea_cons h2 ea_nil)) ⟨x, m, rfl, rfl⟩
theorem cv_is_edge (h1 : EvD K ta r x) (h2 : EvD K tb r (.int m)) : EvD K (tCall (spR K F_is_edge) [] X (tCons ta (tCons tb tNil))) r (.bool (isEdgeD x m)) := ev_call (ea_cons h1 (ea_cons h2 ea_nil)) ⟨x, m, rfl, rfl⟩
theorem cv_is_net (h1 : EvD K ta r x) (h : small x) : EvD K (tCall (spR K F_is_net) [] X (tCons ta tNil)) r (.bool (isNetD x)) := ev_call (ea_cons h1 ea_nil) ⟨x, rfl, h, rfl⟩
theorem cv_bad_state (h1 : EvD K ta r (tI s)) (h2 : EvD K tb r (.int z)) (h3 : EvD K tc r (.int c)) (q1 : 0 < s.length) (q2 : s.length ≤ 1000) : EvD K (tCall (spR K F__law_bad_state) [] X (tCons ta (tCons tb (tCons tc tNil)))) r ((badStates s z (c % (s.length : Int)).toNat).getD (c / 8 % 11).toNat .none) :=
  ev_call (ea_cons h1 (ea_cons h2 (ea_cons h3 ea_nil))) ⟨s, z, c, rfl, q1, q2, rfl⟩
theorem cv_bad_net (h1 : EvD K ta r (nD m es)) (h2 : EvD K tb r (.int c)) (q2 : es.length ≤ 900) : EvD K (tCall (spR K F__law_bad_net) [] X (tCons ta (tCons tb tNil))) r ((badNets m es).getD (c % 22).toNat .none) :=
  ev_call (ea_cons h1 (ea_cons h2 ea_nil)) ⟨m, es, c, rfl, q2, rfl⟩
end
/-! #### the law's own sums -/
theorem state_num {ns : List Int} {x : Int} (h : x ∈ state ns) : 0 ≤ x ∧ x < size ns := by
  unfold state at h
  obtain ⟨k, _, rfl⟩ := List.mem_map.mp h
  have := size_b ns
  have := many_b ns
  exact ⟨mix_lo (by omega), mix_hi (by omega)⟩
theorem state_ok (ns : List Int) : isStateD (tI (state ns)) (size ns) = true := by
  have h1 := many_b ns
  have h2 := size_b ns
  have hl := state_len ns
  show (decide _ && decide _ && decide _ && List.all _ _) = true
  rw [List.length_map, hl, decide_eq_true (by omega), decide_eq_true (by omega), decide_eq_true (by omega), Bool.true_and, Bool.true_and, Bool.true_and, List.all_eq_true]
  intro d hd
  obtain ⟨x, hx, rfl⟩ := List.mem_map.mp hd
  have := state_num hx
  show (decide _ && decide _) = true
  rw [decide_eq_true this.1, decide_eq_true (by omega), Bool.and_self]
theorem set_bad {ds : List PyData} {a : Nat} {d : PyData} {z : Int} (ha : a < ds.length) (hd : isNumD d (z - 1) = false) : isStateD (.tuple (ds.set a d)) z = false := by
  cases q : isStateD (.tuple (ds.set a d)) z with
  | false => rfl
  | true =>
    exfalso
    have q' : (decide _ && decide _ && decide _ && List.all _ _) = true := q
    rw [Bool.and_eq_true, List.all_eq_true] at q'
    have := q'.2 d (List.mem_set ha d)
    rw [hd] at this; cases this
theorem badS {s : List Int} {z : Int} {a : Nat} (ha : a < s.length) (x : PyData) (hx : x ∈ badStates s z a) : isStateD x z = false := by
  have ha' : a < (s.map PyData.int).length := by rw [List.length_map]; exact ha
  unfold badStates at hx
  simp only [List.mem_cons, List.not_mem_nil, or_false] at hx
  rcases hx with rfl | rfl | rfl | rfl | rfl | rfl | rfl | rfl | rfl | rfl | rfl
  · rfl
  · exact set_bad ha' (by show (decide (0 ≤ z) && decide (z ≤ z - 1)) = false; exact Bool.and_eq_false_iff.mpr (.inr (decide_eq_false (by omega))))
  · exact set_bad ha' (by show (decide ((0 : Int) ≤ -1) && decide ((-1 : Int) ≤ z - 1)) = false; rfl)
  · show (decide _ && decide _ && decide _ && List.all _ _) = false
    rw [decide_eq_false (by rw [List.length_take]; omega), Bool.false_and, Bool.false_and, Bool.false_and]
  · rfl
  · exact set_bad ha' rfl
  · exact set_bad ha' rfl
  · rfl
  · rfl
  · rfl
  · exact set_bad ha' rfl
theorem getDd_mem {l : List PyData} {i : Nat} (h : i < l.length) : l.getD i .none ∈ l := by
  rw [List.getD_eq_getElem?_getD, List.getElem?_eq_getElem h]
  exact List.getElem_mem h
theorem badState_no {s : List Int} {z c : Int} (h : 0 < s.length) : isStateD ((badStates s z (c % (s.length : Int)).toNat).getD (c / 8 % 11).toNat .none) z = false := by
  have h1 := Int.emod_nonneg c (b := (s.length : Int)) (by omega)
  have h2 := Int.emod_lt_of_pos c (b := (s.length : Int)) (by omega)
  refine badS (a := (c % (s.length : Int)).toNat) (by omega) _ (getDd_mem ?_)
  show _ < 11
  omega
theorem net_edge_bad {m : Int} {es : List PyData} {e : PyData} (he : e ∈ es) (h : isEdgeD e m = false) : isNetD (.tuple [.int m, .tuple es]) = false := by
  cases q : isNetD (.tuple [.int m, .tuple es]) with
  | false => rfl
  | true =>
    exfalso
    have q' : (isNumD _ _ && !decide _ && List.all _ _ && sortedD es) = true := q
    rw [Bool.and_eq_true, Bool.and_eq_true, List.all_eq_true] at q'
    have := q'.1.2 e he
    rw [h] at this; cases this
theorem edge_lo {a b m : Int} (h : ¬ (0 ≤ a ∧ a < b ∧ b < m)) : isEdgeD (eD (a, b)) m = false := by
  cases q : isEdgeD (eD (a, b)) m with
  | false => rfl
  | true =>
    obtain ⟨a', b', e, h'⟩ := isEdgeD_pair q
    cases e
    exact absurd h' h
theorem badN {m : Int} {es : List (Int × Int)} (x : PyData) (hx : x ∈ badNets m es) : isNetD x = false := by
  unfold badNets at hx
  simp only [List.mem_cons, List.not_mem_nil, or_false] at hx
  rcases hx with rfl | rfl | rfl | rfl | rfl | rfl | rfl | rfl | rfl | rfl | rfl | rfl | rfl | rfl | rfl | rfl | rfl | rfl | rfl | rfl | rfl | rfl
  · rfl
  · rfl
  · rfl
  · rfl
  · rfl
  · rfl
  · rfl
  · rfl
  · rfl
  · exact net_edge_bad (List.mem_append_right _ List.mem_cons_self) (edge_lo (by omega))
  · exact net_edge_bad List.mem_cons_self (edge_lo (by omega))
  · exact net_edge_bad List.mem_cons_self (edge_lo (by omega))
  · exact net_edge_bad (List.mem_append_right _ List.mem_cons_self) rfl
  · exact net_edge_bad List.mem_cons_self (edge_lo (by omega))
  · exact net_edge_bad List.mem_cons_self rfl
  · exact net_edge_bad List.mem_cons_self rfl
  · decide
  · decide
  · decide
  · decide
  · rfl
  · rfl
theorem badNet_no {m : Int} {es : List (Int × Int)} {c : Int} : isNetD ((badNets m es).getD (c % 22).toNat .none) = false := by
  refine badN (m := m) (es := es) _ (getDd_mem ?_)
  show _ < 22
  omega
theorem small_of_len {a : PyData} {es : List PyData} (h : es.length ≤ 1000) : small (.tuple [a, .tuple es]) := fun a' es' e => by cases e; exact h
theorem badN_small {m : Int} {es : List (Int × Int)} (hl : es.length ≤ 900) (x : PyData) (hx : x ∈ badNets m es) : small x := by
  unfold badNets at hx
  simp only [List.mem_cons, List.not_mem_nil, or_false] at hx
  rcases hx with rfl | rfl | rfl | rfl | rfl | rfl | rfl | rfl | rfl | rfl | rfl | rfl | rfl | rfl | rfl | rfl | rfl | rfl | rfl | rfl | rfl | rfl <;>
    intro a' es' e <;> cases e <;> simp <;> omega
theorem badNet_small {m : Int} {es : List (Int × Int)} {c : Int} (hl : es.length ≤ 900) : small ((badNets m es).getD (c % 22).toNat .none) := by
  refine badN_small (m := m) hl _ (getDd_mem ?_)
  show _ < 22
  omega
/-- the drawn edges rise -/
theorem nedges_pw (ns : List Int) : (nedges ns).Pairwise fun p q => p.1 < q.1 ∨ (p.1 = q.1 ∧ p.2 < q.2) := by
  unfold nedges
  rw [List.pairwise_flatMap]
  refine ⟨fun a ha => ?_, irange_pw.imp fun {a b} hab p hp q hq => ?_⟩
  · unfold nrow
    refine List.Pairwise.map _ (fun x y (h : x < y) => .inr ⟨rfl, h⟩) filter_pw
  · obtain ⟨x, _, rfl⟩ := List.mem_map.mp hp
    obtain ⟨y, _, rfl⟩ := List.mem_map.mp hq
    exact .inl hab
theorem sortedD_pw {es : List (Int × Int)} (h : es.Pairwise fun p q => p.1 < q.1 ∨ (p.1 = q.1 ∧ p.2 < q.2)) : sortedD (es.map eD) = true := by
  unfold sortedD
  rw [List.all_eq_true, List.length_map]
  intro k hk
  have hk' := irange_mem.mp hk
  have h1 : (k - 1).toNat < es.length := by omega
  have h2 : k.toNat < es.length := by omega
  rw [List.getD_eq_getElem?_getD, List.getD_eq_getElem?_getD, List.getElem?_map, List.getElem?_map, List.getElem?_eq_getElem h1, List.getElem?_eq_getElem h2]
  show HT.lexLt [es[(k - 1).toNat].1, es[(k - 1).toNat].2] [es[k.toNat].1, es[k.toNat].2] = true
  have := (List.pairwise_iff_getElem.mp h) (k - 1).toNat k.toNat h1 h2 (by omega)
  rw [HT.lexLt_cons, HT.lexLt_cons, HT.lexLt_nil_nil]
  rcases this with h | ⟨h, h'⟩
  · rw [if_neg (by omega), decide_eq_true h]
  · rw [if_pos h, if_neg (by omega), decide_eq_true h']
theorem net_ok (ns : List Int) : isNetD (nD (nmany ns) (nedges ns)) = true := by
  have N := net_net ns
  show (isNumD _ _ && !decide _ && List.all _ _ && sortedD _) = true
  have hb := nmany_b ns
  rw [sortedD_pw (nedges_pw ns), Bool.and_true]
  have e1 : isNumD (.int (nmany ns)) 8 = true := by
    show (decide _ && decide _) = true
    rw [decide_eq_true (by omega), decide_eq_true (by omega), Bool.and_self]
  rw [e1, decide_eq_false (by omega), Bool.not_false, Bool.true_and, Bool.true_and, List.all_eq_true]
  intro d hd
  obtain ⟨p, hp, rfl⟩ := List.mem_map.mp hd
  have := N.ed p hp
  show ((decide _ && decide _) && ((decide _ && decide _) && decide _)) = true
  rw [decide_eq_true (by omega), decide_eq_true (by omega), decide_eq_true (by omega), decide_eq_true (by omega), decide_eq_true (by omega)]; rfl
theorem nedges_900 (ns : List Int) : (nedges ns).length ≤ 900 := by
  have hb := nmany_b ns
  have := flat_len (f := nrow ns) (k := 8) (l := irange 0 (nmany ns).toNat) fun a ha => nrow_len ns (by have := irange_mem.mp ha; omega)
  rw [irange_len] at this
  unfold nedges
  omega
end Od

namespace Od
open PySem PySem.Spec PyProof.Rows L2
def top (i : Nat) : Stmt := PySem.Challenge.pw_oddreel_k01_states_and_nets.main.body.getD i (.Pass ⟨0, 0, 0, 0⟩)
section
variable {P : Program} {w : World} {K : PySem.W.Frag} {mg : Str → Option Value} {base : Heap} {C R : Addr}
abbrev s__law_mix : Stmt := top 7
theorem sc__law_mix : FnScope ["_law_cell_here", "_law_prime", "_law_many"] ["_law_cell_here", "_law_prime", "_law_many"] (defScope s__law_mix) := ⟨rfl, rfl, rfl, by decide +kernel, rfl, by decide +kernel, by decide +kernel⟩
theorem ok__law_mix {f : Addr} {fd : FuncData} (D : DefAt K mg "_law_mix" s__law_mix f fd) (T : Bt mg) : CalOk P w K mg base CX0 1 "_law_mix" ["_law_cell_here", "_law_prime", "_law_many"] (spR K F__law_mix) := by
  refine ⟨_, _, (D.F.ok sc__law_mix (fun vs H Q E h => spR_len h L__law_mix) (fun cdv A outer s H vs Q E hr h => ?_) : FnOk P w K mg base CX0 (0 + 1) f fd ["_law_cell_here", "_law_prime", "_law_many"] _), D.m, D.F.kp, D.F.binds (ps := ["_law_cell_here", "_law_prime", "_law_many"]) fun _ _ _ _ _ _ us hl => match us, hl with | [_, _, _], _ => rfl⟩
  refine ⟨_, (pss_one (ps_ret (pe_op op_mod (pe_op op_mod (pe_op op_mulB (pv 0) pe_int) (pv 1)) (pv 2)))), ?_⟩
  refine spR_body h (fun ds d H0 hF => ?_)
  obtain ⟨c, p, m, rfl, hp, hm, rfl⟩ := hF
  show WP K H0 _ [.im (.int c), .im (.int p), .im (.int m)] _
  exact wp_ret (ev_mod (ev_mod (ev_mul (ev_im rfl) ev_int (mulR (by decide) (by decide))) (ev_im rfl) hp) (ev_im rfl) hm) rfl

abbrev s__law_cell : Stmt := top 6
theorem sc__law_cell : FnScope ["_law_script", "_law_k"] ["_law_script", "_law_k"] (defScope s__law_cell) := ⟨rfl, rfl, rfl, by decide +kernel, rfl, by decide +kernel, by decide +kernel⟩
theorem ok__law_cell {f : Addr} {fd : FuncData} (D : DefAt K mg "_law_cell" s__law_cell f fd) (T : Bt mg) : CalOk P w K mg base CX0 1 "_law_cell" ["_law_script", "_law_k"] (spR K F__law_cell) := by
  refine ⟨_, _, (D.F.ok sc__law_cell (fun vs H Q E h => spR_len h L__law_cell) (fun cdv A outer s H vs Q E hr h => ?_) : FnOk P w K mg base CX0 (0 + 1) f fd ["_law_script", "_law_k"] _), D.m, D.F.kp, D.F.binds (ps := ["_law_script", "_law_k"]) fun _ _ _ _ _ _ us hl => match us, hl with | [_, _], _ => rfl⟩
  refine ⟨_, (pss_cons (ps_if (pt_cmpR op_lt (pv 1) (pe_callB (call_lenK (K := K) rfl) (by rfl) T.len_ boot_len (pa_cons (pv 0) pa_nil)) (nomark _))
        (pss_one (ps_ret (pe_ix (ix_listK (K := K) rfl) (pv 0) (pv 1) (fun _ _ => rfl))))
        pss_nil)
      (pss_one (ps_ret pe_int))), ?_⟩
  refine spR_body h (fun ds d H0 hF => ?_)
  obtain ⟨ns, k, rfl, h0, rfl⟩ := hF
  show WP K H0 _ [.im (lI ns), .im (.int k)] _
  refine wp_seq (wp_if (et_test (ev_lt (ev_im rfl) (ev_len (EvL.toQ (EvD.toL (ev_im rfl)))))) (fun hb => ?_) (fun hb => wp_next ?_))
  · have hk := of_decide_eq_true hb
    rw [List.length_map] at hk
    exact wp_ret (ev_ixL (EvD.toL (ev_im rfl)) (ev_im rfl) (at_nn h0 hk)) rfl
  · have hk := of_decide_eq_false hb
    rw [List.length_map] at hk
    refine wp_ret ev_int ?_
    show PyData.int 0 = PyData.int (cell ns k)
    unfold cell
    rw [List.getD_eq_getElem?_getD, List.getElem?_eq_none (by omega)]; rfl

abbrev s__law_size : Stmt := top 8
theorem sc__law_size : FnScope ["_law_script", "_law_many"] ["_law_script"] (defScope s__law_size) := ⟨rfl, rfl, rfl, by decide +kernel, rfl, by decide +kernel, by decide +kernel⟩
theorem ok__law_size {f : Addr} {fd : FuncData} (D : DefAt K mg "_law_size" s__law_size f fd) (T : Bt mg) (c__law_mix : CalOk P w K mg base CX0 1 "_law_mix" ["_law_cell_here", "_law_prime", "_law_many"] (spR K F__law_mix)) (c__law_cell : CalOk P w K mg base CX0 1 "_law_cell" ["_law_script", "_law_k"] (spR K F__law_cell)) : CalOk P w K mg base CX0 2 "_law_size" ["_law_script"] (spR K F__law_size) := by
  refine ⟨_, _, (D.F.ok sc__law_size (fun vs H Q E h => spR_len h L__law_size) (fun cdv A outer s H vs Q E hr h => ?_) : FnOk P w K mg base CX0 (1 + 1) f fd ["_law_script"] _), D.m, D.F.kp, D.F.binds (ps := ["_law_script"]) fun _ _ _ _ _ _ us hl => match us, hl with | [_], _ => rfl⟩
  refine ⟨_, (pss_cons (ps_set (i := 1) sc__law_size.nd rfl (by first | exact Or.inl rfl | exact Or.inr rfl) (pe_op op_add pe_int (pe_callC c__law_mix (hr.mono (by decide)) rfl (pa_cons (pe_callC c__law_cell (hr.mono (by decide)) rfl (pa_cons (pv 0) (pa_cons pe_int pa_nil))) (pa_cons pe_int (pa_cons pe_int pa_nil))))))
      (pss_one (ps_ret (pe_op op_add (pv 1) (pe_callC c__law_mix (hr.mono (by decide)) rfl (pa_cons (pe_callC c__law_cell (hr.mono (by decide)) rfl (pa_cons (pv 0) (pa_cons pe_int pa_nil))) (pa_cons pe_int (pa_cons (pe_op op_sub pe_int (pv 1)) pa_nil)))))))), ?_⟩
  refine spR_body h (fun ds d H0 hF => ?_)
  obtain ⟨ns, rfl, rfl⟩ := hF
  have hm := many_b ns
  show WP K H0 _ [.im (lI ns), .no] _
  refine wp_seq (wp_set (ev_add ev_int (cv_mix (cv_cell (ev_im rfl) ev_int (by decide)) ev_int ev_int (by decide) (by decide))) ?_)
  exact wp_ret (ev_add (ev_im rfl) (cv_mix (cv_cell (ev_im rfl) ev_int (by decide)) ev_int (ev_sub ev_int (ev_im rfl)) (by decide) (show 0 < 21 - many ns by omega))) rfl

abbrev s__law_state : Stmt := top 9
theorem sc__law_state : FnScope ["_law_script", "_law_many", "_law_k"] ["_law_script"] (defScope s__law_state) := ⟨rfl, rfl, rfl, by decide +kernel, rfl, by decide +kernel, by decide +kernel⟩
theorem ok__law_state {f : Addr} {fd : FuncData} (D : DefAt K mg "_law_state" s__law_state f fd) (T : Bt mg) (c__law_mix : CalOk P w K mg base CX0 1 "_law_mix" ["_law_cell_here", "_law_prime", "_law_many"] (spR K F__law_mix)) (c__law_cell : CalOk P w K mg base CX0 1 "_law_cell" ["_law_script", "_law_k"] (spR K F__law_cell)) (c__law_size : CalOk P w K mg base CX0 2 "_law_size" ["_law_script"] (spR K F__law_size)) : CalOk P w K mg base CX0 3 "_law_state" ["_law_script"] (spR K F__law_state) := by
  refine ⟨_, _, (D.F.ok sc__law_state (fun vs H Q E h => spR_len h L__law_state) (fun cdv A outer s H vs Q E hr h => ?_) : FnOk P w K mg base CX0 (2 + 1) f fd ["_law_script"] _), D.m, D.F.kp, D.F.binds (ps := ["_law_script"]) fun _ _ _ _ _ _ us hl => match us, hl with | [_], _ => rfl⟩
  refine ⟨_, (pss_cons (ps_set (i := 1) sc__law_state.nd rfl (by first | exact Or.inl rfl | exact Or.inr rfl) (pe_op op_add pe_int (pe_callC c__law_mix (hr.mono (by decide)) rfl (pa_cons (pe_callC c__law_cell (hr.mono (by decide)) rfl (pa_cons (pv 0) (pa_cons pe_int pa_nil))) (pa_cons pe_int (pa_cons pe_int pa_nil))))))
      (pss_one (ps_ret (pe_callTy (call_tupleK (K := K) rfl) (by rfl) T.tuple_ boot_tuple (pa_cons (pe_lc (own := [("_law_k", 2)]) (g := (gName 2)) (tt := tYes) rfl sc__law_state.nd (pi_range1 (by rfl) T.range_ (pa_cons (pv 1) pa_nil)) (blkOk_by (own := [("_law_k", 2)]) (N := ["_law_script", "_law_many", "_law_k"]) (sc := defScope s__law_state) (by decide +kernel)) (fun _ _ _ _ _ => (pg_name (i := 2) sc__law_state.nd rfl (by first | exact Or.inl rfl | exact Or.inr rfl))) (fun _ _ _ _ _ => pts_nil) (fun _ _ _ _ _ => (pe_callC c__law_mix (hr.mono (by decide)) rfl (pa_cons (pe_op op_add (pe_callC c__law_cell (hr.mono (by decide)) rfl (pa_cons (pv 0) (pa_cons pe_int pa_nil))) (pe_op op_mulB pe_int (pv 2))) (pa_cons pe_int (pa_cons (pe_callC c__law_size (hr.mono (by decide)) rfl (pa_cons (pv 0) pa_nil)) pa_nil)))))) pa_nil))))), ?_⟩
  refine spR_body h (fun ds d H0 hF => ?_)
  obtain ⟨ns, rfl, rfl⟩ := hF
  have hm := many_b ns
  have hz := size_b ns
  show WP K H0 _ [.im (lI ns), .no, .no] _
  refine wp_seq (wp_set (ev_add ev_int (cv_mix (cv_cell (ev_im rfl) ev_int (by decide)) ev_int ev_int (by decide) (by decide))) ?_)
  refine wp_ret (ev_tupleL (EvM.toL (EvN.toM (ev_lcM (ei_rng1 (j := many ns) (ea_cons (ev_im rfl) ea_nil) (by omega) (by omega)) (irange 0 (many ns).toNat) PyData.int (fun k => .int (mix (cell ns 1 + 31 * k) 9949 (size ns))) rfl ?_ (fun k hk => ⟨_, gc_name (by decide), ?_⟩))))) ?_
  · rw [irange_len]; exact szI (by omega)
  · exact cv_mix (ev_add (cv_cell (ev_im rfl) ev_int (by decide)) (ev_mul ev_int (ev_im rfl) (mulL (by decide) (by decide)))) ev_int (cv_size (ev_im rfl)) (by decide) (by omega)
  · show PyData.tuple _ = PyData.tuple _
    unfold state
    rw [List.map_map]; rfl

abbrev s__law_net : Stmt := top 10
theorem sc__law_net : FnScope ["_law_script", "_law_many", "_law_share", "_law_edges", "_law_one", "_law_other"] ["_law_script"] (defScope s__law_net) := ⟨rfl, rfl, rfl, by decide +kernel, rfl, by decide +kernel, by decide +kernel⟩
theorem ok__law_net {f : Addr} {fd : FuncData} (D : DefAt K mg "_law_net" s__law_net f fd) (T : Bt mg) (c__law_mix : CalOk P w K mg base CX0 1 "_law_mix" ["_law_cell_here", "_law_prime", "_law_many"] (spR K F__law_mix)) (c__law_cell : CalOk P w K mg base CX0 1 "_law_cell" ["_law_script", "_law_k"] (spR K F__law_cell)) : CalOk P w K mg base CX0 2 "_law_net" ["_law_script"] (spR K F__law_net) := by
  refine ⟨_, _, (D.F.ok sc__law_net (fun vs H Q E h => spR_len h L__law_net) (fun cdv A outer s H vs Q E hr h => ?_) : FnOk P w K mg base CX0 (1 + 1) f fd ["_law_script"] _), D.m, D.F.kp, D.F.binds (ps := ["_law_script"]) fun _ _ _ _ _ _ us hl => match us, hl with | [_], _ => rfl⟩
  refine ⟨_, (pss_cons (ps_set (i := 1) sc__law_net.nd rfl (by first | exact Or.inl rfl | exact Or.inr rfl) (pe_op op_add pe_int (pe_callC c__law_mix (hr.mono (by decide)) rfl (pa_cons (pe_callC c__law_cell (hr.mono (by decide)) rfl (pa_cons (pv 0) (pa_cons pe_int pa_nil))) (pa_cons pe_int (pa_cons pe_int pa_nil))))))
      (pss_cons (ps_set (i := 2) sc__law_net.nd rfl (by first | exact Or.inl rfl | exact Or.inr rfl) (pe_callC c__law_mix (hr.mono (by decide)) rfl (pa_cons (pe_callC c__law_cell (hr.mono (by decide)) rfl (pa_cons (pv 0) (pa_cons pe_int pa_nil))) (pa_cons pe_int (pa_cons pe_int pa_nil)))))
      (pss_cons (ps_set (i := 3) sc__law_net.nd rfl (by first | exact Or.inl rfl | exact Or.inr rfl) (pe_lst pa_nil))
      (pss_cons (ps_for PassesOwn.never rfl (pi_range1 (by rfl) T.range_ (pa_cons (pv 1) pa_nil)) (pg_name (i := 4) sc__law_net.nd rfl (by first | exact Or.inl rfl | exact Or.inr rfl))
        (pss_one (ps_for PassesOwn.never rfl (pi_range2 (by rfl) T.range_ (pa_cons (pe_op op_add (pv 4) pe_int) (pa_cons (pv 1) pa_nil))) (pg_name (i := 5) sc__law_net.nd rfl (by first | exact Or.inl rfl | exact Or.inr rfl))
          (pss_one (ps_if (pt_cmpR op_lt (pe_callC c__law_mix (hr.mono (by decide)) rfl (pa_cons (pe_op op_add (pe_op op_add (pe_callC c__law_cell (hr.mono (by decide)) rfl (pa_cons (pv 0) (pa_cons pe_int pa_nil))) (pe_op op_mulB pe_int (pv 4))) (pe_op op_mulB pe_int (pv 5))) (pa_cons pe_int (pa_cons pe_int pa_nil)))) (pv 2) (nomark _))
            (pss_one (ps_expr (pe_bm PySem.F.plainAttrs_list PySem.F.slot_list_append PySem.F.type_list_append mt_append (pv 3) (pa_cons (pe_tup (pa_cons (pv 4) (pa_cons (pv 5) pa_nil))) pa_nil))))
            pss_nil)))))
      (pss_one (ps_ret (pe_tup (pa_cons (pv 1) (pa_cons (pe_callTy (call_tupleK (K := K) rfl) (by rfl) T.tuple_ boot_tuple (pa_cons (pv 3) pa_nil)) pa_nil))))))))), ?_⟩
  refine spR_body h (fun ds d H0 hF => ?_)
  obtain ⟨ns, rfl, rfl⟩ := hF
  have hm := nmany_b ns
  show WP K H0 _ [.im (lI ns), .no, .no, .no, .no, .no] _
  refine wp_seq (wp_set (d := .int (nmany ns)) (ev_is (ev_add ev_int (cv_mix (cv_cell (ev_im rfl) ev_int (by decide)) ev_int ev_int (by decide) (by decide))) rfl) ?_)
  refine wp_seq (wp_set (d := .int (nshare ns)) (ev_is (cv_mix (cv_cell (ev_im rfl) ev_int (by decide)) ev_int ev_int (by decide) (by decide)) rfl) ?_)
  refine wp_seq (wp_setN (ev_lst ea_nil (szI (by show (0 : Nat) ≤ 100000; decide))) ?_)
  refine wp_seq (wp_for (ei_rng1 (j := nmany ns) (ea_cons (ev_im rfl) ea_nil) (by omega) (by omega))
    (fun i r => ∃ a4 a5, r = [.im (lI ns), .im (.int (nmany ns)), .im (.int (nshare ns)), .ow (((irange 0 i).flatMap (nrow ns)).map eD), a4, a5]) ⟨.no, .no, rfl⟩ ?_ ?_)
  · rintro i d _ hi ⟨a4, a5, rfl⟩
    obtain ⟨a, ha, rfl, hlt⟩ := map_get hi
    rw [irange_len] at hlt
    rw [irange_get hlt] at ha
    have ea : 0 + (i : Int) = a := Option.some.inj ha
    have hlen : ((irange 0 i).flatMap (nrow ns)).length ≤ 64 := by
      have := flat_len (f := nrow ns) (k := 8) (l := irange 0 i) fun a ha => nrow_len ns (by have := irange_mem.mp ha; omega)
      rw [irange_len] at this
      omega
    refine ⟨_, gs_name, ?_⟩
    refine wp_for (ei_rng2 (i := a + 1) (j := nmany ns) (ea_cons (ev_add (ev_im rfl) ev_int) (ea_cons (ev_im rfl) ea_nil)) (by omega) (by omega) (by omega) (by omega))
      (fun j r => ∃ a5, r = [.im (lI ns), .im (.int (nmany ns)), .im (.int (nshare ns)), .ow (((irange 0 i).flatMap (nrow ns) ++ ((irange (a + 1) j).filter (npick ns a)).map fun b => (a, b)).map eD), .im (.int a), a5]) ⟨a5, ?_⟩ ?_ ?_
    · show _ = [_, _, _, Sl.ow (((irange 0 i).flatMap (nrow ns) ++ []).map eD), _, _]
      rw [List.append_nil]; rfl
    · rintro j d2 _ hj ⟨b5, rfl⟩
      obtain ⟨b, hb, rfl, hlt2⟩ := map_get hj
      rw [irange_len] at hlt2
      rw [irange_get hlt2] at hb
      have eb : a + 1 + (j : Int) = b := Option.some.inj hb
      refine ⟨_, gs_name, ?_⟩
      refine wp_if (b := npick ns a b) (et_test (ev_is (ev_lt (cv_mix (ev_add (ev_add (cv_cell (ev_im rfl) ev_int (by decide)) (ev_mul ev_int (ev_im rfl) (mulL (by decide) (by decide)))) (ev_mul ev_int (ev_im rfl) (mulL (by decide) (by decide)))) ev_int ev_int (by decide) (by decide)) (ev_im rfl)) rfl)) (fun hb => ?_) (fun hb => wp_next ⟨.im (.int b), ?_⟩)
      · refine wp_append rfl (ev_tup (ea_cons (ev_im rfl) (ea_cons (ev_im rfl) ea_nil)) (szI (by show (2 : Nat) ≤ 100000; decide))) (szlt ?_) ⟨.im (.int b), ?_⟩
        · have h2 := List.length_filter_le (npick ns a) (irange (a + 1) j)
          rw [irange_len] at h2
          rw [List.length_map, List.length_append, List.length_map]
          omega
        · rw [irange_succ', eb, List.filter_append, List.filter_cons_of_pos hb, List.filter_nil, List.map_append, List.map_append, List.map_append, List.map_append, List.append_assoc]; rfl
      · rw [irange_succ', eb, List.filter_append, List.filter_cons_of_neg (by rw [hb]; exact Bool.false_ne_true), List.filter_nil, List.append_nil]; rfl
    · rintro _ ⟨b5, rfl⟩
      refine ⟨.im (.int a), b5, ?_⟩
      rw [List.length_map, irange_len, irange_succ', ea, List.flatMap_append, List.flatMap_cons, List.flatMap_nil, List.append_nil]; rfl
  · rintro _ ⟨a4, a5, rfl⟩
    rw [List.length_map, irange_len]
    exact wp_ret (ev_tup (ea_cons (ev_im rfl) (ea_cons (ev_tupleL (EvM.toL (ev_ow rfl))) ea_nil)) (szI (by show (2 : Nat) ≤ 100000; decide))) rfl

abbrev s_is_number : Stmt := top 1
theorem sc_is_number : FnScope ["thing", "most"] ["thing", "most"] (defScope s_is_number) := ⟨rfl, rfl, rfl, by decide +kernel, rfl, by decide +kernel, by decide +kernel⟩
theorem ok_is_number {f : Addr} {fd : FuncData} (D : DefAt K mg "is_number" s_is_number f fd) (T : Bt mg) : CalOk P w K mg base CX0 1 "is_number" ["thing", "most"] (spR K F_is_number) := by
  refine ⟨_, _, (D.F.ok sc_is_number (fun vs H Q E h => spR_len h L_is_number) (fun cdv A outer s H vs Q E hr h => ?_) : FnOk P w K mg base CX0 (0 + 1) f fd ["thing", "most"] _), D.m, D.F.kp, D.F.binds (ps := ["thing", "most"]) fun _ _ _ _ _ _ us hl => match us, hl with | [_, _], _ => rfl⟩
  refine ⟨_, (pss_one (ps_ret (pe_and (pe_callB (call_isiK' (K := K) rfl) (by rfl) T.isinstance_ boot_isinstance (pa_cons (pv 0) (pa_cons (pe_bltn (v := .ty "int") (by rfl) T.int_ boot_int rfl) pa_nil))) (pe_and (pe_not (pe_callB (call_isiK' (K := K) rfl) (by rfl) T.isinstance_ boot_isinstance (pa_cons (pv 0) (pa_cons (pe_bltn (v := .ty "bool") (by rfl) T.bool_ boot_bool rfl) pa_nil)))) (pe_one (pe_chain op_le op_le pe_int (pv 0) (pv 1))))))), ?_⟩
  refine spR_body h (fun ds d H0 hF => ?_)
  obtain ⟨x, m, rfl, rfl⟩ := hF
  show WP K H0 _ [.im x, .im (.int m)] _
  by_cases hx : ∃ i, x = .int i
  · obtain ⟨i, rfl⟩ := hx
    exact wp_ret (ev_is (ev_andV (ev_isi (ev_im rfl).toH (kit_in _)) (fun _ => ev_andV (ev_notV (ev_isi (ev_im rfl).toH (kit_bo _))) (fun _ => ev_chainLe ev_int (ev_im rfl) (ev_im rfl)))) rfl) rfl
  · have e : ∀ b, PyData.bool (isIn x && (!isBo x && b)) = .bool (isNumD x m) := fun b => by
      cases x with
      | int i => exact absurd ⟨i, rfl⟩ hx
      | bool b => rfl
      | none => rfl
      | str x => rfl
      | list ds => rfl
      | tuple ds => rfl
      | dict ds => rfl
    refine wp_ret (ev_is (ev_andV (b := !isBo x && false) (ev_isi (ev_im rfl).toH (kit_in _)) (fun h1 => ev_andV (ev_notV (ev_isi (ev_im rfl).toH (kit_bo _))) (fun h2 => ?_))) (e false)) rfl
    exfalso
    cases x with
    | int i => exact hx ⟨i, rfl⟩
    | bool b => cases h2
    | none => cases h1
    | str x => cases h1
    | list ds => cases h1
    | tuple ds => cases h1
    | dict ds => cases h1

abbrev s_is_state : Stmt := top 2
theorem sc_is_state : FnScope ["thing", "size", "one"] ["thing", "size"] (defScope s_is_state) := ⟨rfl, rfl, rfl, by decide +kernel, rfl, by decide +kernel, by decide +kernel⟩
theorem ok_is_state {f : Addr} {fd : FuncData} (D : DefAt K mg "is_state" s_is_state f fd) (T : Bt mg) (c_is_number : CalOk P w K mg base CX0 1 "is_number" ["thing", "most"] (spR K F_is_number)) : CalOk P w K mg base CX0 2 "is_state" ["thing", "size"] (spR K F_is_state) := by
  refine ⟨_, _, (D.F.ok sc_is_state (fun vs H Q E h => spR_len h L_is_state) (fun cdv A outer s H vs Q E hr h => ?_) : FnOk P w K mg base CX0 (1 + 1) f fd ["thing", "size"] _), D.m, D.F.kp, D.F.binds (ps := ["thing", "size"]) fun _ _ _ _ _ _ us hl => match us, hl with | [_, _], _ => rfl⟩
  refine ⟨_, (pss_cons (ps_if (PW.pt (pw_or (pt_not (pt_val (pe_callB (call_isiK' (K := K) rfl) (by rfl) T.isinstance_ boot_isinstance (pa_cons (pv 0) (pa_cons (pe_bltn (v := .ty "tuple") (by rfl) T.tuple_ boot_tuple rfl) pa_nil))))) (pw_or (pt_not (pt_chain op_le op_le pe_int (pe_callB (call_lenK (K := K) rfl) (by rfl) T.len_ boot_len (pa_cons (pv 0) pa_nil)) pe_int)) (pw_or1 (pt_cmpR op_gt (pe_callB (call_lenK (K := K) rfl) (by rfl) T.len_ boot_len (pa_cons (pv 0) pa_nil)) (pv 1) (nomark _))))))
        (pss_one (ps_ret pe_bl))
        pss_nil)
      (pss_one (ps_ret (pe_callB (cr_allK (K := K) rfl rfl) (by rfl) T.all_ boot_all (pa_cons (pe_lc (own := [("one", 2)]) (g := (gName 2)) (tt := tYes) rfl sc_is_state.nd (pi_tup (pv 0)) (blkOk_by (own := [("one", 2)]) (N := ["thing", "size", "one"]) (sc := defScope s_is_state) (by decide +kernel)) (fun _ _ _ _ _ => (pg_name (i := 2) sc_is_state.nd rfl (by first | exact Or.inl rfl | exact Or.inr rfl))) (fun _ _ _ _ _ => pts_nil) (fun _ _ _ _ _ => (pe_callC c_is_number (hr.mono (by decide)) rfl (pa_cons (pv 2) (pa_cons (pe_op op_sub (pv 1) pe_int) pa_nil))))) pa_nil))))), ?_⟩
  refine spR_body h (fun ds d H0 hF => ?_)
  obtain ⟨x, z, rfl, rfl⟩ := hF
  show WP K H0 _ [.im x, .im (.int z), .no] _
  by_cases ht : isTu x = true
  · obtain ⟨ds, rfl⟩ := isTu_tuple ht
    refine wp_seq (wp_if (et_or (et_not (et_B (ev_isi (ev_im rfl).toH (kit_tu _)))) (fun _ => et_or (et_not (et_test (ev_chainLe ev_int (ev_len (EvD.toQ (ev_im rfl))) ev_int))) (fun _ => et_test (ev_gt (ev_len (EvD.toQ (ev_im rfl))) (ev_im rfl))))) (fun hb => wp_ret ev_bl ?_) (fun hb => wp_next ?_))
    · show PyData.bool false = .bool (decide (2 ≤ ds.length) && decide (ds.length ≤ 8) && decide ((ds.length : Int) ≤ z) && ds.all fun d => isNumD d (z - 1))
      simp [isTu] at hb
      congr 1
      symm
      by_cases h1 : 2 ≤ ds.length
      · by_cases h2 : ds.length ≤ 8
        · by_cases h3 : (ds.length : Int) ≤ z
          · exfalso
            rcases hb with hb | hb <;> omega
          · simp [h3]
        · simp [h2]
      · simp [h1]
    · simp [isTu] at hb
      refine wp_ret (ev_is (ev_all (bs := ds.map fun d => isNumD d (z - 1)) (EvM.toL (EvN.toM (ev_is2 (ev_lcM (ei_tup (ev_im rfl)) ds id (fun d => .bool (isNumD d (z - 1))) (List.map_id _).symm (szI (by omega)) (fun d hd => ⟨_, gc_name (by decide), cv_is_number (ev_im rfl) (ev_sub (ev_im rfl) ev_int)⟩)) (by rw [List.map_map]; rfl))))) ?_) rfl
      show PyData.bool _ = .bool (decide (2 ≤ ds.length) && decide (ds.length ≤ 8) && decide ((ds.length : Int) ≤ z) && ds.all fun d => isNumD d (z - 1))
      rw [decide_eq_true (by omega), decide_eq_true (by omega), decide_eq_true (by omega), List.all_map]; rfl
  · have hf : isTu x = false := by simpa using ht
    refine wp_seq (wp_if (b := true) (et_is (et_or (b := false) (et_not (et_B (ev_isi (ev_im rfl).toH (kit_tu _)))) (fun h => by rw [hf] at h; cases h)) (by rw [hf]; rfl)) (fun hb => wp_ret ev_bl ?_) (fun hb => absurd hb (by decide)))
    cases x with
    | tuple ds => cases hf
    | _ => rfl

abbrev s_is_edge : Stmt := top 3
theorem sc_is_edge : FnScope ["thing", "many"] ["thing", "many"] (defScope s_is_edge) := ⟨rfl, rfl, rfl, by decide +kernel, rfl, by decide +kernel, by decide +kernel⟩
theorem ok_is_edge {f : Addr} {fd : FuncData} (D : DefAt K mg "is_edge" s_is_edge f fd) (T : Bt mg) (c_is_number : CalOk P w K mg base CX0 1 "is_number" ["thing", "most"] (spR K F_is_number)) : CalOk P w K mg base CX0 2 "is_edge" ["thing", "many"] (spR K F_is_edge) := by
  refine ⟨_, _, (D.F.ok sc_is_edge (fun vs H Q E h => spR_len h L_is_edge) (fun cdv A outer s H vs Q E hr h => ?_) : FnOk P w K mg base CX0 (1 + 1) f fd ["thing", "many"] _), D.m, D.F.kp, D.F.binds (ps := ["thing", "many"]) fun _ _ _ _ _ _ us hl => match us, hl with | [_, _], _ => rfl⟩
  refine ⟨_, (pss_cons (ps_if (PW.pt (pw_or (pt_not (pt_val (pe_callB (call_isiK' (K := K) rfl) (by rfl) T.isinstance_ boot_isinstance (pa_cons (pv 0) (pa_cons (pe_bltn (v := .ty "tuple") (by rfl) T.tuple_ boot_tuple rfl) pa_nil))))) (pw_or1 (pt_cmpR (op_neK (K := K) rfl hr.units) (pe_callB (call_lenK (K := K) rfl) (by rfl) T.len_ boot_len (pa_cons (pv 0) pa_nil)) pe_int (nomark _)))))
        (pss_one (ps_ret pe_bl))
        pss_nil)
      (pss_one (ps_ret (pe_and (pe_callC c_is_number (hr.mono (by decide)) rfl (pa_cons (pe_ix (ix_tupK (K := K) rfl) (pv 0) pe_int (fun _ _ => rfl)) (pa_cons (pe_op op_sub (pv 1) pe_int) pa_nil))) (pe_and (pe_callC c_is_number (hr.mono (by decide)) rfl (pa_cons (pe_ix (ix_tupK (K := K) rfl) (pv 0) pe_int (fun _ _ => rfl)) (pa_cons (pe_op op_sub (pv 1) pe_int) pa_nil))) (pe_one (pe_cmpR op_lt (pe_ix (ix_tupK (K := K) rfl) (pv 0) pe_int (fun _ _ => rfl)) (pe_ix (ix_tupK (K := K) rfl) (pv 0) pe_int (fun _ _ => rfl)) (nomark _)))))))), ?_⟩
  refine spR_body h (fun ds d H0 hF => ?_)
  obtain ⟨x, m, rfl, rfl⟩ := hF
  show WP K H0 _ [.im x, .im (.int m)] _
  by_cases ht : isTu x = true
  · obtain ⟨ds, rfl⟩ := isTu_tuple ht
    refine wp_seq (wp_if (et_or (et_not (et_B (ev_isi (ev_im rfl).toH (kit_tu _)))) (fun _ => et_test (ev_neI (ev_len (EvD.toQ (ev_im rfl))) ev_int))) (fun hb => wp_ret ev_bl ?_) (fun hb => wp_next ?_))
    · simp [isTu] at hb
      show PyData.bool false = .bool (isEdgeD _ m)
      unfold isEdgeD
      split
      · rename_i a b e
        cases e
        exact absurd rfl hb
      · rfl
    · simp [isTu] at hb
      have hl : ds.length = 2 := by omega
      match ds, hl with
      | [a, b], _ =>
        refine wp_ret (ev_is (ev_andV (b := isNumD b (m - 1) && ltD a b) (cv_is_number (ev_ixT (ev_im rfl) ev_int rfl) (ev_sub (ev_im rfl) ev_int)) (fun h1 => ev_andV (b := ltD a b) (cv_is_number (ev_ixT (ev_im rfl) ev_int rfl) (ev_sub (ev_im rfl) ev_int)) (fun h2 => ?_))) rfl) rfl
        obtain ⟨i, rfl, _⟩ := isNumD_int h1
        obtain ⟨j, rfl, _⟩ := isNumD_int h2
        exact ev_lt (ev_ixT (ev_im rfl) ev_int rfl) (ev_ixT (ev_im rfl) ev_int rfl)
  · have hf : isTu x = false := by simpa using ht
    refine wp_seq (wp_if (b := true) (et_is (et_or (b := false) (et_not (et_B (ev_isi (ev_im rfl).toH (kit_tu _)))) (fun h => by rw [hf] at h; cases h)) (by rw [hf]; rfl)) (fun hb => wp_ret ev_bl ?_) (fun hb => absurd hb (by decide)))
    cases x with
    | tuple ds => cases hf
    | _ => rfl

abbrev s_is_net : Stmt := top 4
theorem sc_is_net : FnScope ["thing", "many", "edges", "edge", "k"] ["thing"] (defScope s_is_net) := ⟨rfl, rfl, rfl, by decide +kernel, rfl, by decide +kernel, by decide +kernel⟩
theorem ok_is_net {f : Addr} {fd : FuncData} (D : DefAt K mg "is_net" s_is_net f fd) (T : Bt mg) (c_is_number : CalOk P w K mg base CX0 1 "is_number" ["thing", "most"] (spR K F_is_number)) (c_is_edge : CalOk P w K mg base CX0 2 "is_edge" ["thing", "many"] (spR K F_is_edge)) : CalOk P w K mg base CX0 3 "is_net" ["thing"] (spR K F_is_net) := by
  refine ⟨_, _, (D.F.ok sc_is_net (fun vs H Q E h => spR_len h L_is_net) (fun cdv A outer s H vs Q E hr h => ?_) : FnOk P w K mg base CX0 (2 + 1) f fd ["thing"] _), D.m, D.F.kp, D.F.binds (ps := ["thing"]) fun _ _ _ _ _ _ us hl => match us, hl with | [_], _ => rfl⟩
  refine ⟨_, (pss_cons (ps_if (PW.pt (pw_or (pt_not (pt_val (pe_callB (call_isiK' (K := K) rfl) (by rfl) T.isinstance_ boot_isinstance (pa_cons (pv 0) (pa_cons (pe_bltn (v := .ty "tuple") (by rfl) T.tuple_ boot_tuple rfl) pa_nil))))) (pw_or (pt_cmpR (op_neK (K := K) rfl hr.units) (pe_callB (call_lenK (K := K) rfl) (by rfl) T.len_ boot_len (pa_cons (pv 0) pa_nil)) pe_int (nomark _)) (pw_or (pt_not (pt_val (pe_callC c_is_number (hr.mono (by decide)) rfl (pa_cons (pe_ix (ix_tupK (K := K) rfl) (pv 0) pe_int (fun _ _ => rfl)) (pa_cons pe_int pa_nil))))) (pw_or1 (pt_cmpR (op_eqK (K := K) rfl hr.units) (pe_ix (ix_tupK (K := K) rfl) (pv 0) pe_int (fun _ _ => rfl)) pe_int (nomark _)))))))
        (pss_one (ps_ret pe_bl))
        pss_nil)
      (pss_cons (ps_asg (pv 0) (pg_tup rfl (pgs_cons (pg_name (i := 1) sc_is_net.nd rfl (by first | exact Or.inl rfl | exact Or.inr rfl)) (pgs_cons (pg_name (i := 2) sc_is_net.nd rfl (by first | exact Or.inl rfl | exact Or.inr rfl)) pgs_nil))))
      (pss_cons (ps_if (PW.pt (pw_or (pt_not (pt_val (pe_callB (call_isiK' (K := K) rfl) (by rfl) T.isinstance_ boot_isinstance (pa_cons (pv 2) (pa_cons (pe_bltn (v := .ty "tuple") (by rfl) T.tuple_ boot_tuple rfl) pa_nil))))) (pw_or1 (pt_not (pt_val (pe_callB (cr_allK (K := K) rfl rfl) (by rfl) T.all_ boot_all (pa_cons (pe_lc (own := [("edge", 3)]) (g := (gName 3)) (tt := tYes) rfl sc_is_net.nd (pi_tup (pv 2)) (blkOk_by (own := [("edge", 3)]) (N := ["thing", "many", "edges", "edge", "k"]) (sc := defScope s_is_net) (by decide +kernel)) (fun _ _ _ _ _ => (pg_name (i := 3) sc_is_net.nd rfl (by first | exact Or.inl rfl | exact Or.inr rfl))) (fun _ _ _ _ _ => pts_nil) (fun _ _ _ _ _ => (pe_callC c_is_edge (hr.mono (by decide)) rfl (pa_cons (pv 3) (pa_cons (pv 1) pa_nil))))) pa_nil)))))))
        (pss_one (ps_ret pe_bl))
        pss_nil)
      (pss_one (ps_ret (pe_callB (cr_allK (K := K) rfl rfl) (by rfl) T.all_ boot_all (pa_cons (pe_lc (own := [("k", 4)]) (g := (gName 4)) (tt := tYes) rfl sc_is_net.nd (pi_range2 (by rfl) T.range_ (pa_cons pe_int (pa_cons (pe_callB (call_lenK (K := K) rfl) (by rfl) T.len_ boot_len (pa_cons (pv 2) pa_nil)) pa_nil))) (blkOk_by (own := [("k", 4)]) (N := ["thing", "many", "edges", "edge", "k"]) (sc := defScope s_is_net) (by decide +kernel)) (fun _ _ _ _ _ => (pg_name (i := 4) sc_is_net.nd rfl (by first | exact Or.inl rfl | exact Or.inr rfl))) (fun _ _ _ _ _ => pts_nil) (fun _ _ _ _ _ => (pe_cmpR (op_ltK (K := K) rfl hr.units0) (pe_ix (ix_tupK (K := K) rfl) (pv 2) (pe_op op_sub (pv 4) pe_int) (fun _ _ => rfl)) (pe_ix (ix_tupK (K := K) rfl) (pv 2) (pv 4) (fun _ _ => rfl)) (nomark _)))) pa_nil))))))), ?_⟩
  refine spR_body h (fun ds d H0 hF => ?_)
  obtain ⟨x, rfl, hs, rfl⟩ := hF
  show WP K H0 _ [.im x, .no, .no, .no, .no] _
  by_cases ht : isTu x = true
  · obtain ⟨ds, rfl⟩ := isTu_tuple ht
    by_cases hl : ds.length = 2
    · match ds, hl with
      | [a, b], _ =>
        by_cases hn : isNumD a 8 = true
        · obtain ⟨m, rfl, hm0, hm8⟩ := isNumD_int hn
          refine wp_seq (wp_if (et_or (et_not (et_B (ev_isi (ev_im rfl).toH (kit_tu _)))) (fun _ => et_or (et_test (ev_neI (ev_len (EvD.toQ (ev_im rfl))) ev_int)) (fun _ => et_or (et_not (et_B (cv_is_number (ev_ixT (ev_im rfl) ev_int rfl) ev_int))) (fun _ => et_test (ev_eqI (ev_ixT (ev_im rfl) ev_int rfl) ev_int))))) (fun hb => wp_ret ev_bl ?_) (fun hb => wp_next ?_))
          · rw [hn] at hb
            simp [isTu] at hb
            subst hb
            show PyData.bool false = .bool (isNetD _)
            unfold isNetD
            split
            · rename_i e
              cases e
              rfl
            · rfl
          · rw [hn] at hb
            simp [isTu] at hb
            refine wp_seq (wp_asg (ev_im rfl) gs_tup2 ?_)
            show WP K H0 _ [.im (.tuple [.int m, b]), .im (.int m), .im b, .no, .no] _
            by_cases hbt : isTu b = true
            · obtain ⟨es, rfl⟩ := isTu_tuple hbt
              have hes := hs _ _ rfl
              refine wp_seq (wp_if (et_or (et_not (et_B (ev_isi (ev_im rfl).toH (kit_tu _)))) (fun _ => et_not (et_B (ev_all (bs := es.map fun d => isEdgeD d m) (EvM.toL (EvN.toM (ev_is2 (ev_lcM (ei_tup (ev_im rfl)) es id (fun d => .bool (isEdgeD d m)) (List.map_id _).symm (szI (by omega)) (fun d hd => ⟨_, gc_name (by decide), cv_is_edge (ev_im rfl) (ev_im rfl)⟩)) (by rw [List.map_map]; rfl)))))))) (fun hb2 => wp_ret ev_bl ?_) (fun hb2 => wp_next ?_))
              · have ea : es.all (fun d => isEdgeD d m) = false := by
                  cases q : es.all (fun d => isEdgeD d m) with
                  | false => rfl
                  | true =>
                    exfalso
                    rw [List.all_map] at hb2
                    have q' : List.all es (id ∘ fun d => isEdgeD d m) = true := q
                    rw [q'] at hb2
                    cases hb2
                show PyData.bool false = .bool (isNumD _ _ && !decide _ && List.all _ _ && sortedD es)
                rw [ea, Bool.and_false, Bool.false_and]
              · have ea : es.all (fun d => isEdgeD d m) = true := by
                  cases q : es.all (fun d => isEdgeD d m) with
                  | true => rfl
                  | false =>
                    exfalso
                    rw [List.all_map] at hb2
                    have q' : List.all es (id ∘ fun d => isEdgeD d m) = false := q
                    rw [q'] at hb2
                    cases hb2
                have ea' := List.all_eq_true.mp ea
                refine wp_ret (ev_is (ev_all (bs := (irange 1 (es.length - 1)).map fun k => pairLt (es.getD (k - 1).toNat .none) (es.getD k.toNat .none)) (EvM.toL (EvN.toM (ev_is2 (ev_lcM (ei_rng2 (i := 1) (j := (es.length : Int)) (ea_cons ev_int (ea_cons (ev_len (EvD.toQ (ev_im rfl))) ea_nil)) (by omega) (by omega) (by omega) (by omega)) (irange 1 (es.length - 1)) PyData.int (fun k => .bool (pairLt (es.getD (k - 1).toNat .none) (es.getD k.toNat .none))) (by rw [show ((es.length : Int) - 1).toNat = es.length - 1 by omega]) (szI (by rw [irange_len]; omega)) (fun k hk => ⟨_, gc_name (by decide), ?_⟩)) (by rw [List.map_map]; rfl))))) ?_) rfl
                · have hk' := irange_mem.mp hk
                  have h1 : (k - 1).toNat < es.length := by omega
                  have h2 : k.toNat < es.length := by omega
                  obtain ⟨a1, b1, e1, _⟩ := isEdgeD_pair (ea' _ (getDd_mem h1))
                  obtain ⟨a2, b2, e2, _⟩ := isEdgeD_pair (ea' _ (getDd_mem h2))
                  have q := ev_ltT (K := K) (ns := [a1, b1]) (ms := [a2, b2]) (ev_is (ev_ixT (d := es.getD (k - 1).toNat .none) (ev_im (n := 2) (d := .tuple es) (r := (wipeR [.im (.tuple [.int m, .tuple es]), .im (.int m), .im (.tuple es), .no, .no] [4]).set 4 (.im (.int k))) rfl) (ev_sub (ev_im (n := 4) rfl) ev_int) (at_dd (by omega) (by omega))) e1) (ev_is (ev_ixT (d := es.getD k.toNat .none) (ev_im (n := 2) rfl) (ev_im (n := 4) (d := .int k) rfl) (at_dd (by omega) (by omega))) e2)
                  rw [e1, e2]
                  exact q
                · show PyData.bool _ = .bool (isNumD _ _ && !decide _ && List.all _ _ && sortedD es)
                  rw [hn, ea, decide_eq_false hb, List.all_map]; rfl
            · have hf : isTu b = false := by simpa using hbt
              refine wp_seq (wp_if (b := true) (et_is (et_or (b := false) (et_not (et_B (ev_isi (ev_im rfl).toH (kit_tu _)))) (fun h => by rw [hf] at h; cases h)) (by rw [hf]; rfl)) (fun hb => wp_ret ev_bl ?_) (fun hb => absurd hb (by decide)))
              cases b with
              | tuple ds => cases hf
              | _ => rfl
        · have hn' : isNumD a 8 = false := by simpa using hn
          refine wp_seq (wp_if (b := true) (et_is (et_or (et_not (et_B (ev_isi (ev_im rfl).toH (kit_tu _)))) (fun _ => et_or (et_test (ev_neI (ev_len (EvD.toQ (ev_im rfl))) ev_int)) (fun _ => et_or (b := false) (et_not (et_B (cv_is_number (ev_ixT (ev_im rfl) ev_int rfl) ev_int))) (fun h => by rw [hn'] at h; cases h)))) (by rw [hn']; rfl)) (fun hb => wp_ret ev_bl ?_) (fun hb => absurd hb (by decide)))
          show PyData.bool false = .bool (isNetD _)
          unfold isNetD
          split
          · rename_i e
            cases e
            rw [hn']; rfl
          · rfl
    · refine wp_seq (wp_if (b := true) (et_is (et_or (et_not (et_B (ev_isi (ev_im rfl).toH (kit_tu _)))) (fun _ => et_or (b := false) (et_test (ev_neI (ev_len (EvD.toQ (ev_im rfl))) ev_int)) (fun h => ?_))) ?_) (fun hb => wp_ret ev_bl ?_) (fun hb => absurd hb (by decide)))
      · exfalso
        simp at h
        omega
      · simp [isTu]; omega
      · show PyData.bool false = .bool (isNetD _)
        unfold isNetD
        split
        · rename_i e
          cases e
          exact absurd rfl hl
        · rfl
  · have hf : isTu x = false := by simpa using ht
    refine wp_seq (wp_if (b := true) (et_is (et_or (b := false) (et_not (et_B (ev_isi (ev_im rfl).toH (kit_tu _)))) (fun h => by rw [hf] at h; cases h)) (by rw [hf]; rfl)) (fun hb => wp_ret ev_bl ?_) (fun hb => absurd hb (by decide)))
    cases x with
    | tuple ds => cases hf
    | _ => rfl

abbrev s__law_bad_state : Stmt := top 11
theorem sc__law_bad_state : FnScope ["_law_state_here", "_law_size_here", "_law_cell_here", "_law_at", "_law_some"] ["_law_state_here", "_law_size_here", "_law_cell_here"] (defScope s__law_bad_state) := ⟨rfl, rfl, rfl, by decide +kernel, rfl, by decide +kernel, by decide +kernel⟩
theorem ok__law_bad_state {f : Addr} {fd : FuncData} (D : DefAt K mg "_law_bad_state" s__law_bad_state f fd) (T : Bt mg) : CalOk P w K mg base CX0 1 "_law_bad_state" ["_law_state_here", "_law_size_here", "_law_cell_here"] (spR K F__law_bad_state) := by
  refine ⟨_, _, (D.F.ok sc__law_bad_state (fun vs H Q E h => spR_len h L__law_bad_state) (fun cdv A outer s H vs Q E hr h => ?_) : FnOk P w K mg base CX0 (0 + 1) f fd ["_law_state_here", "_law_size_here", "_law_cell_here"] _), D.m, D.F.kp, D.F.binds (ps := ["_law_state_here", "_law_size_here", "_law_cell_here"]) fun _ _ _ _ _ _ us hl => match us, hl with | [_, _, _], _ => rfl⟩
  refine ⟨_, (pss_cons (ps_set (i := 3) sc__law_bad_state.nd rfl (by first | exact Or.inl rfl | exact Or.inr rfl) (pe_op op_mod (pv 2) (pe_callB (call_lenK (K := K) rfl) (by rfl) T.len_ boot_len (pa_cons (pv 0) pa_nil))))
      (pss_cons (ps_set (i := 4) sc__law_bad_state.nd rfl (by first | exact Or.inl rfl | exact Or.inr rfl) (pe_lst (pa_cons (pe_callTy (call_listK (K := K) rfl) (by rfl) T.list_ boot_list (pa_cons (pv 0) pa_nil)) (pa_cons (pe_op (op_catK (K := K) rfl) (pe_op (op_catK (K := K) rfl) (pe_slice (sl_tupK (K := K) rfl) (pv 0) po_none (po_some (pv 3))) (pe_tup (pa_cons (pv 1) pa_nil))) (pe_slice (sl_tupK (K := K) rfl) (pv 0) (po_some (pe_op op_add (pv 3) pe_int)) po_none)) (pa_cons (pe_op (op_catK (K := K) rfl) (pe_op (op_catK (K := K) rfl) (pe_slice (sl_tupK (K := K) rfl) (pv 0) po_none (po_some (pv 3))) (pe_tup (pa_cons (pe_un un_neg pe_int) pa_nil))) (pe_slice (sl_tupK (K := K) rfl) (pv 0) (po_some (pe_op op_add (pv 3) pe_int)) po_none)) (pa_cons (pe_slice (sl_tupK (K := K) rfl) (pv 0) po_none (po_some pe_int)) (pa_cons pe_non pa_nil)))))))
      (pss_cons (ps_set (i := 4) sc__law_bad_state.nd rfl (by first | exact Or.inl rfl | exact Or.inr rfl) (pe_op op_cat (pv 4) (pe_lst (pa_cons (pe_op (op_catK (K := K) rfl) (pe_op (op_catK (K := K) rfl) (pe_slice (sl_tupK (K := K) rfl) (pv 0) po_none (po_some (pv 3))) (pe_tup (pa_cons pe_bl pa_nil))) (pe_slice (sl_tupK (K := K) rfl) (pv 0) (po_some (pe_op op_add (pv 3) pe_int)) po_none)) (pa_cons (pe_op (op_catK (K := K) rfl) (pe_op (op_catK (K := K) rfl) (pe_slice (sl_tupK (K := K) rfl) (pv 0) po_none (po_some (pv 3))) (pe_tup (pa_cons pe_str pa_nil))) (pe_slice (sl_tupK (K := K) rfl) (pv 0) (po_some (pe_op op_add (pv 3) pe_int)) po_none)) (pa_cons (pe_tup pa_nil) (pa_cons pe_int (pa_cons pe_str pa_nil))))))))
      (pss_cons (ps_expr (pe_bm PySem.F.plainAttrs_list PySem.F.slot_list_append PySem.F.type_list_append mt_append (pv 4) (pa_cons (pe_op (op_catK (K := K) rfl) (pe_op (op_catK (K := K) rfl) (pe_slice (sl_tupK (K := K) rfl) (pv 0) po_none (po_some (pv 3))) (pe_tup (pa_cons pe_non pa_nil))) (pe_slice (sl_tupK (K := K) rfl) (pv 0) (po_some (pe_op op_add (pv 3) pe_int)) po_none)) pa_nil)))
      (pss_one (ps_ret (pe_ix (ix_listK (K := K) rfl) (pv 4) (pe_op op_mod (pe_op op_fdiv (pv 2) pe_int) (pe_callB (call_lenK (K := K) rfl) (by rfl) T.len_ boot_len (pa_cons (pv 4) pa_nil))) (fun _ _ => rfl)))))))), ?_⟩
  refine spR_body h (fun ds d H0 hF => ?_)
  obtain ⟨s, z, c, rfl, h0, hl, rfl⟩ := hF
  have ha0 := Int.emod_nonneg c (b := (s.length : Int)) (by omega)
  have ha1 := Int.emod_lt_of_pos c (b := (s.length : Int)) (by omega)
  obtain ⟨a, ha⟩ : ∃ a, c % (s.length : Int) = a := ⟨_, rfl⟩
  rw [ha] at ha0 ha1
  have hds : (s.map PyData.int).length = s.length := List.length_map _
  show WP K H0 _ [.im (tI s), .im (.int z), .im (.int c), .no, .no] _
  refine wp_seq (wp_set (d := .int a) (ev_is (ev_mod (ev_im rfl) (ev_is (ev_len (EvD.toQ (ev_im rfl))) (by rw [List.length_map])) (by omega)) (by rw [ha])) ?_)
  have put : ∀ {r : Rho} {tx : TE} {d : PyData}, r[0]? = some (.im (tI s)) → r[3]? = some (.im (.int a)) → EvD K tx r d → EvD K (tOp (rCatA K) (tOp (rCatA K) (tSl (rSlA K) (tVar 0) tNoPart (tPart (tVar 3))) (tTup (tCons tx tNil))) (tSl (rSlA K) (tVar 0) (tPart (tOp (rI0 fun i j => V.int (i + j)) (tVar 3) (tC (V.int 1)))) tNoPart)) r (.tuple ((s.map PyData.int).set a.toNat d)) :=
    fun h1 h2 hx => ev_putx (ev_im h1) (ev_im h2) hx ha0 (by omega) (by omega)
  refine wp_seq (wp_setN (ev_lst (ea_cons (ev_list (EvD.toQ (ev_im rfl))).toD (ea_cons (put rfl rfl (ev_im rfl)) (ea_cons (put rfl rfl (ev_neg ev_int)) (ea_cons (ev_slT (ev_im rfl) eo_none (eo_some ev_int)) (ea_cons ev_non ea_nil))))) (szI (by show (5 : Nat) ≤ 100000; decide))) ?_)
  refine wp_seq (wp_setN (ev_catL (ev_ow rfl) (EvN.toM (ev_lst (ea_cons (put rfl rfl ev_bl) (ea_cons (put rfl rfl ev_str) (ea_cons (ev_tup ea_nil (szI (by show (0 : Nat) ≤ 100000; decide))) (ea_cons ev_int (ea_cons ev_str ea_nil))))) (szI (by show (5 : Nat) ≤ 100000; decide)))) (szI (by show (5 : Nat) + 5 ≤ 100000; decide))) ?_)
  refine wp_seq (wp_append rfl (put rfl rfl ev_non) (szlt (by show (10 : Nat) < 100000; decide)) ?_)
  have e1 : cutD (s.map PyData.int) none (some 1) = (s.map PyData.int).take 1 := cut_hi (k := 1)
  have hb0 := Int.emod_nonneg (c / 8) (b := 11) (by omega)
  have hb1 := Int.emod_lt_of_pos (c / 8) (b := 11) (by omega)
  refine wp_ret (ev_ixL (EvM.toL (ev_ow rfl)) (ev_mod (j := 11) (ev_div (ev_im rfl) ev_int ⟨by decide, by decide⟩) (ev_is (ev_len (EvL.toQ (EvM.toL (ev_ow rfl)))) rfl) (by decide)) (at_dd hb0 hb1)) ?_
  show List.getD [_, _, _, PyData.tuple (cutD (s.map PyData.int) none (some 1)), _, _, _, _, _, _, _] _ _ = _
  rw [e1, ha]; rfl

abbrev s__law_bad_net : Stmt := top 12
theorem sc__law_bad_net : FnScope ["_law_net_here", "_law_cell_here", "_law_many", "_law_edges", "_law_some"] ["_law_net_here", "_law_cell_here"] (defScope s__law_bad_net) := ⟨rfl, rfl, rfl, by decide +kernel, rfl, by decide +kernel, by decide +kernel⟩
theorem ok__law_bad_net {f : Addr} {fd : FuncData} (D : DefAt K mg "_law_bad_net" s__law_bad_net f fd) (T : Bt mg) : CalOk P w K mg base CX0 1 "_law_bad_net" ["_law_net_here", "_law_cell_here"] (spR K F__law_bad_net) := by
  refine ⟨_, _, (D.F.ok sc__law_bad_net (fun vs H Q E h => spR_len h L__law_bad_net) (fun cdv A outer s H vs Q E hr h => ?_) : FnOk P w K mg base CX0 (0 + 1) f fd ["_law_net_here", "_law_cell_here"] _), D.m, D.F.kp, D.F.binds (ps := ["_law_net_here", "_law_cell_here"]) fun _ _ _ _ _ _ us hl => match us, hl with | [_, _], _ => rfl⟩
  refine ⟨_, (pss_cons (ps_asg (pv 0) (pg_tup rfl (pgs_cons (pg_name (i := 2) sc__law_bad_net.nd rfl (by first | exact Or.inl rfl | exact Or.inr rfl)) (pgs_cons (pg_name (i := 3) sc__law_bad_net.nd rfl (by first | exact Or.inl rfl | exact Or.inr rfl)) pgs_nil))))
      (pss_cons (ps_set (i := 4) sc__law_bad_net.nd rfl (by first | exact Or.inl rfl | exact Or.inr rfl) (pe_lst (pa_cons (pe_tup (pa_cons (pv 2) (pa_cons (pe_callTy (call_listK (K := K) rfl) (by rfl) T.list_ boot_list (pa_cons (pv 3) pa_nil)) pa_nil))) (pa_cons (pe_lst (pa_cons (pv 2) (pa_cons (pv 3) pa_nil))) (pa_cons (pe_tup (pa_cons pe_int (pa_cons (pe_tup pa_nil) pa_nil))) (pa_cons (pe_tup (pa_cons pe_int (pa_cons (pv 3) pa_nil))) (pa_cons (pe_tup (pa_cons pe_bl (pa_cons (pe_tup pa_nil) pa_nil))) (pa_cons (pe_tup (pa_cons (pv 2) pa_nil)) (pa_cons (pe_tup (pa_cons (pv 2) (pa_cons (pv 3) (pa_cons pe_int pa_nil)))) (pa_cons pe_non (pa_cons pe_int pa_nil)))))))))))
      (pss_cons (ps_set (i := 4) sc__law_bad_net.nd rfl (by first | exact Or.inl rfl | exact Or.inr rfl) (pe_op op_cat (pv 4) (pe_lst (pa_cons (pe_tup (pa_cons (pv 2) (pa_cons (pe_op (op_catK (K := K) rfl) (pv 3) (pe_tup (pa_cons (pe_tup (pa_cons pe_int (pa_cons (pv 2) pa_nil))) pa_nil))) pa_nil))) (pa_cons (pe_tup (pa_cons (pv 2) (pa_cons (pe_tup (pa_cons (pe_tup (pa_cons pe_int (pa_cons pe_int pa_nil))) pa_nil)) pa_nil))) (pa_cons (pe_tup (pa_cons (pv 2) (pa_cons (pe_tup (pa_cons (pe_tup (pa_cons pe_int (pa_cons pe_int pa_nil))) pa_nil)) pa_nil))) (pa_cons (pe_tup (pa_cons (pv 2) (pa_cons (pe_op (op_catK (K := K) rfl) (pv 3) (pe_tup (pa_cons (pe_lst (pa_cons pe_int (pa_cons pe_int pa_nil))) pa_nil))) pa_nil))) pa_nil)))))))
      (pss_cons (ps_set (i := 4) sc__law_bad_net.nd rfl (by first | exact Or.inl rfl | exact Or.inr rfl) (pe_op op_cat (pv 4) (pe_lst (pa_cons (pe_tup (pa_cons (pv 2) (pa_cons (pe_tup (pa_cons (pe_tup (pa_cons (pe_un un_neg pe_int) (pa_cons pe_int pa_nil))) pa_nil)) pa_nil))) (pa_cons (pe_tup (pa_cons (pv 2) (pa_cons (pe_tup (pa_cons pe_int pa_nil)) pa_nil))) (pa_cons (pe_tup (pa_cons (pv 2) (pa_cons (pe_tup (pa_cons (pe_tup (pa_cons pe_int (pa_cons pe_int (pa_cons pe_int pa_nil)))) pa_nil)) pa_nil))) (pa_cons (pe_tup (pa_cons pe_int (pa_cons (pe_tup (pa_cons (pe_tup (pa_cons pe_int (pa_cons pe_int pa_nil))) (pa_cons (pe_tup (pa_cons pe_int (pa_cons pe_int pa_nil))) pa_nil))) pa_nil))) (pa_cons (pe_tup (pa_cons pe_int (pa_cons (pe_tup (pa_cons (pe_tup (pa_cons pe_int (pa_cons pe_int pa_nil))) (pa_cons (pe_tup (pa_cons pe_int (pa_cons pe_int pa_nil))) pa_nil))) pa_nil))) pa_nil))))))))
      (pss_cons (ps_set (i := 4) sc__law_bad_net.nd rfl (by first | exact Or.inl rfl | exact Or.inr rfl) (pe_op op_cat (pv 4) (pe_lst (pa_cons (pe_tup (pa_cons pe_int (pa_cons (pe_tup (pa_cons (pe_tup (pa_cons pe_int (pa_cons pe_bl pa_nil))) pa_nil)) pa_nil))) (pa_cons (pe_tup (pa_cons pe_int (pa_cons (pe_tup (pa_cons (pe_tup (pa_cons pe_int (pa_cons pe_str pa_nil))) pa_nil)) pa_nil))) (pa_cons (pe_tup (pa_cons pe_str (pa_cons (pe_tup pa_nil) pa_nil))) (pa_cons (pe_tup (pa_cons (pv 2) (pa_cons pe_non pa_nil))) pa_nil)))))))
      (pss_one (ps_ret (pe_ix (ix_listK (K := K) rfl) (pv 4) (pe_op op_mod (pv 1) (pe_callB (call_lenK (K := K) rfl) (by rfl) T.len_ boot_len (pa_cons (pv 4) pa_nil))) (fun _ _ => rfl))))))))), ?_⟩
  refine spR_body h (fun ds d H0 hF => ?_)
  obtain ⟨m, es, c, rfl, hl, rfl⟩ := hF
  have hb0 := Int.emod_nonneg c (b := 22) (by omega)
  have hb1 := Int.emod_lt_of_pos c (b := 22) (by omega)
  have hds : (es.map eD).length = es.length := List.length_map _
  have z : ∀ n : Nat, n ≤ 100000 → n ≤ sizeLine := fun n h => szI h
  show WP K H0 _ [.im (nD m es), .im (.int c), .no, .no, .no] _
  have nil : ∀ {r : Rho}, EvD K (tTup tNil) r (.tuple []) := ev_tup ea_nil (szI (by show (0 : Nat) ≤ 100000; decide))
  have t1 : ∀ {r : Rho} {ta : TE} {d1 : PyData}, EvD K ta r d1 → EvD K (tTup (tCons ta tNil)) r (.tuple [d1]) := fun h1 => ev_tup (ea_cons h1 ea_nil) (szI (by show (1 : Nat) ≤ 100000; decide))
  have t2 : ∀ {r : Rho} {ta tb : TE} {d1 d2 : PyData}, EvD K ta r d1 → EvD K tb r d2 → EvD K (tTup (tCons ta (tCons tb tNil))) r (.tuple [d1, d2]) := fun h1 h2 => ev_tup (ea_cons h1 (ea_cons h2 ea_nil)) (szI (by show (2 : Nat) ≤ 100000; decide))
  have t3 : ∀ {r : Rho} {ta tb tc : TE} {d1 d2 d3 : PyData}, EvD K ta r d1 → EvD K tb r d2 → EvD K tc r d3 → EvD K (tTup (tCons ta (tCons tb (tCons tc tNil)))) r (.tuple [d1, d2, d3]) := fun h1 h2 h3 => ev_tup (ea_cons h1 (ea_cons h2 (ea_cons h3 ea_nil))) (szI (by show (3 : Nat) ≤ 100000; decide))
  have l2 : ∀ {r : Rho} {ta tb : TE} {d1 d2 : PyData}, EvD K ta r d1 → EvD K tb r d2 → EvD K (tLst (tCons ta (tCons tb tNil))) r (.list [d1, d2]) := fun h1 h2 => (ev_lst (ea_cons h1 (ea_cons h2 ea_nil)) (szI (by show (2 : Nat) ≤ 100000; decide))).toD
  have cat : ∀ {r : Rho} {ta tb : TE} {d : PyData}, EvD K ta r (.tuple (es.map eD)) → EvD K tb r (.tuple [d]) → EvD K (tOp (rCatA K) ta tb) r (.tuple (es.map eD ++ [d])) := fun h1 h2 => ev_catT h1 h2 (szI (by show _ + 1 ≤ _; omega))
  refine wp_seq (wp_asg (ev_im rfl) gs_tup2 ?_)
  show WP K H0 _ [.im (nD m es), .im (.int c), .im (.int m), .im (.tuple (es.map eD)), .no] _
  refine wp_seq (wp_setN (ev_lst (ea_cons (t2 (ev_im rfl) (ev_list (EvD.toQ (ev_im rfl))).toD) (ea_cons (l2 (ev_im rfl) (ev_im rfl)) (ea_cons (t2 ev_int nil) (ea_cons (t2 ev_int (ev_im rfl)) (ea_cons (t2 ev_bl nil) (ea_cons (t1 (ev_im rfl)) (ea_cons (t3 (ev_im rfl) (ev_im rfl) ev_int) (ea_cons ev_non (ea_cons ev_int ea_nil))))))))) (szI (by show (9 : Nat) ≤ 100000; decide))) ?_)
  refine wp_seq (wp_setN (ev_catL (ev_ow rfl) (EvN.toM (ev_lst (ea_cons (t2 (ev_im rfl) (cat (ev_im rfl) (t1 (t2 ev_int (ev_im rfl))))) (ea_cons (t2 (ev_im rfl) (t1 (t2 ev_int ev_int))) (ea_cons (t2 (ev_im rfl) (t1 (t2 ev_int ev_int))) (ea_cons (t2 (ev_im rfl) (cat (ev_im rfl) (t1 (l2 ev_int ev_int)))) ea_nil)))) (szI (by show (4 : Nat) ≤ 100000; decide)))) (szI (by show (9 : Nat) + 4 ≤ 100000; decide))) ?_)
  refine wp_seq (wp_setN (ev_catL (ev_ow rfl) (EvN.toM (ev_lst (ea_cons (t2 (ev_im rfl) (t1 (t2 (ev_neg ev_int) ev_int))) (ea_cons (t2 (ev_im rfl) (t1 ev_int)) (ea_cons (t2 (ev_im rfl) (t1 (t3 ev_int ev_int ev_int))) (ea_cons (t2 ev_int (t2 (t2 ev_int ev_int) (t2 ev_int ev_int))) (ea_cons (t2 ev_int (t2 (t2 ev_int ev_int) (t2 ev_int ev_int))) ea_nil))))) (szI (by show (5 : Nat) ≤ 100000; decide)))) (szI (by show (13 : Nat) + 5 ≤ 100000; decide))) ?_)
  refine wp_seq (wp_setN (ev_catL (ev_ow rfl) (EvN.toM (ev_lst (ea_cons (t2 ev_int (t1 (t2 ev_int ev_bl))) (ea_cons (t2 ev_int (t1 (t2 ev_int ev_str))) (ea_cons (t2 ev_str nil) (ea_cons (t2 (ev_im rfl) ev_non) ea_nil)))) (szI (by show (4 : Nat) ≤ 100000; decide)))) (szI (by show (18 : Nat) + 4 ≤ 100000; decide))) ?_)
  refine wp_ret (ev_ixL (EvM.toL (ev_ow rfl)) (ev_mod (j := 22) (ev_im rfl) (ev_is (ev_len (EvL.toQ (EvM.toL (ev_ow rfl)))) rfl) (by decide)) (at_dd hb0 hb1)) ?_
  rfl
end
section
variable {P : Program} {w : World} {K : PySem.W.Frag} {mg : Str → Option Value} {base : Heap} {C R : Addr}
abbrev s_law : Stmt := top 13
theorem sc_law : FnScope ["_law_script", "_law_size_here", "_law_state_here", "_law_net_here", "_law_cell_here"] ["_law_script"] (defScope s_law) := ⟨rfl, rfl, rfl, by decide +kernel, rfl, by decide +kernel, by decide +kernel⟩
theorem fn_law {f : Addr} {fd : FuncData} (D : DefAt K mg "law" s_law f fd) (T : Bt mg) (c__law_size : CalOk P w K mg base CX0 2 "_law_size" ["_law_script"] (spR K F__law_size)) (c__law_state : CalOk P w K mg base CX0 3 "_law_state" ["_law_script"] (spR K F__law_state)) (c__law_net : CalOk P w K mg base CX0 2 "_law_net" ["_law_script"] (spR K F__law_net)) (c_is_state : CalOk P w K mg base CX0 2 "is_state" ["thing", "size"] (spR K F_is_state)) (c_is_net : CalOk P w K mg base CX0 3 "is_net" ["thing"] (spR K F_is_net)) (c__law_bad_state : CalOk P w K mg base CX0 1 "_law_bad_state" ["_law_state_here", "_law_size_here", "_law_cell_here"] (spR K F__law_bad_state)) (c__law_bad_net : CalOk P w K mg base CX0 1 "_law_bad_net" ["_law_net_here", "_law_cell_here"] (spR K F__law_bad_net)) : FnOk P w K mg base CX0 4 f fd ["_law_script"] (spR K F_law) := by
  refine D.F.ok sc_law (fun vs H Q E h => spR_len h L_law) (fun cdv A outer s H vs Q E hr h => ?_)
  refine ⟨_, (pss_cons (ps_set (i := 1) sc_law.nd rfl (by first | exact Or.inl rfl | exact Or.inr rfl) (pe_callC c__law_size (hr.mono (by decide)) rfl (pa_cons (pv 0) pa_nil)))
      (pss_cons (ps_set (i := 2) sc_law.nd rfl (by first | exact Or.inl rfl | exact Or.inr rfl) (pe_callC c__law_state (hr.mono (by decide)) rfl (pa_cons (pv 0) pa_nil)))
      (pss_cons (ps_set (i := 3) sc_law.nd rfl (by first | exact Or.inl rfl | exact Or.inr rfl) (pe_callC c__law_net (hr.mono (by decide)) rfl (pa_cons (pv 0) pa_nil)))
      (pss_cons (ps_if (PW.pt (pw_or (pt_cmpR op_notBl (pe_callC c_is_state (hr.mono (by decide)) rfl (pa_cons (pv 2) (pa_cons (pv 1) pa_nil))) pe_bl (nomark _)) (pw_or1 (pt_cmpR op_notBl (pe_callC c_is_net (hr.mono (by decide)) rfl (pa_cons (pv 3) pa_nil)) pe_bl (nomark _)))))
        (pss_one (ps_ret pe_bl))
        pss_nil)
      (pss_cons (ps_for PassesOwn.never rfl (pi_list (pe_slice (sl_listK (K := K) rfl) (pv 0) (po_some pe_int) (po_some pe_int))) (pg_name (i := 4) sc_law.nd rfl (by first | exact Or.inl rfl | exact Or.inr rfl))
        (pss_cons (ps_if (pt_cmpR op_notBl (pe_callC c_is_state (hr.mono (by decide)) rfl (pa_cons (pe_callC c__law_bad_state (hr.mono (by decide)) rfl (pa_cons (pv 2) (pa_cons (pv 1) (pa_cons (pv 4) pa_nil)))) (pa_cons (pv 1) pa_nil))) pe_bl (nomark _))
          (pss_one (ps_ret pe_bl))
          pss_nil)
        (pss_one (ps_if (pt_cmpR op_notBl (pe_callC c_is_net (hr.mono (by decide)) rfl (pa_cons (pe_callC c__law_bad_net (hr.mono (by decide)) rfl (pa_cons (pv 3) (pa_cons (pv 4) pa_nil))) pa_nil)) pe_bl (nomark _))
          (pss_one (ps_ret pe_bl))
          pss_nil))))
      (pss_cons (ps_if (PW.pt (pw_or (pt_cmpR op_notBl (pe_callC c_is_state (hr.mono (by decide)) rfl (pa_cons (pe_op (op_repK (K := K) rfl) (pe_tup (pa_cons pe_int pa_nil)) pe_int) (pa_cons pe_int pa_nil))) pe_bl (nomark _)) (pw_or (pt_cmpR op_notBl (pe_callC c_is_state (hr.mono (by decide)) rfl (pa_cons (pe_tup (pa_cons pe_int (pa_cons pe_int (pa_cons pe_int pa_nil)))) (pa_cons pe_int pa_nil))) pe_bl (nomark _)) (pw_or1 (pt_cmpR op_notBl (pe_callC c_is_net (hr.mono (by decide)) rfl (pa_cons (pe_callTy (call_listK (K := K) rfl) (by rfl) T.list_ boot_list (pa_cons (pv 3) pa_nil)) pa_nil)) pe_bl (nomark _))))))
        (pss_one (ps_ret pe_bl))
        pss_nil)
      (pss_one (ps_ret (pe_and (pe_cmpR op_isBl (pe_callC c_is_state (hr.mono (by decide)) rfl (pa_cons (pe_op (op_repK (K := K) rfl) (pe_tup (pa_cons pe_int pa_nil)) pe_int) (pa_cons pe_int pa_nil))) pe_bl (nomark _)) (pe_one (pe_cmpR op_isBl (pe_callC c_is_net (hr.mono (by decide)) rfl (pa_cons (pe_tup (pa_cons pe_int (pa_cons (pe_tup (pa_cons (pe_tup (pa_cons pe_int (pa_cons pe_int pa_nil))) (pa_cons (pe_tup (pa_cons pe_int (pa_cons pe_int pa_nil))) pa_nil))) pa_nil))) pa_nil)) pe_bl (nomark _)))))))))))), ?_⟩
  refine spR_body h (fun ds d H0 hF => ?_)
  obtain ⟨ns, rfl, -, -, rfl⟩ := hF
  have hm := many_b ns
  have sl : (state ns).length = (many ns).toNat := state_len ns
  have s0 : 0 < (state ns).length := by omega
  have s1 : (state ns).length ≤ 1000 := by omega
  have e9 := nedges_900 ns
  have hnl : ((nedges ns).map eD).length ≤ 1000 := by rw [List.length_map]; omega
  show WP K H0 _ [.im (lI ns), .no, .no, .no, .no] _
  refine wp_seq (wp_set (cv_size (ev_im rfl)) ?_)
  refine wp_seq (wp_set (cv_state (ev_im rfl)) ?_)
  refine wp_seq (wp_set (cv_net (ev_im rfl)) ?_)
  refine wp_seq (wp_if (b := false) (et_is (et_or (et_test (ev_isN (cv_is_state (ev_im rfl) (ev_im rfl)) ev_bl)) (fun _ => et_test (ev_isN (cv_is_net (ev_im rfl) (small_of_len hnl)) ev_bl))) (by rw [state_ok, net_ok]; rfl)) (fun hb => absurd hb (by decide)) (fun _ => wp_next ?_))
  refine wp_seq (wp_for (xs := cutD (ns.map PyData.int) (some 2) (some 10)) (ei_list (EvN.toD (ev_slL (EvD.toL (ev_im rfl)) (eo_some ev_int) (eo_some ev_int))))
    (fun i r => ∃ a, r = [.im (lI ns), .im (.int (size ns)), .im (tI (state ns)), .im (nD (nmany ns) (nedges ns)), a]) ⟨_, rfl⟩ ?_ ?_)
  · rintro i d _ hi ⟨a, rfl⟩
    obtain ⟨c, _, rfl⟩ := List.mem_map.mp (cutD_mem (List.mem_of_getElem? hi))
    refine ⟨_, gs_name, ?_⟩
    refine wp_seq (wp_if (b := false) (et_test (ev_is (ev_isN (cv_is_state (cv_bad_state (ev_im rfl) (ev_im rfl) (ev_im rfl) s0 s1) (ev_im rfl)) ev_bl) (by rw [badState_no s0]; rfl))) (fun hb => absurd hb (by decide)) (fun _ => wp_next ?_))
    exact wp_if (b := false) (et_test (ev_is (ev_isN (cv_is_net (cv_bad_net (ev_im rfl) (ev_im rfl) e9) (badNet_small e9)) ev_bl) (by rw [badNet_no]; rfl))) (fun hb => absurd hb (by decide)) (fun _ => wp_next ⟨_, rfl⟩)
  rintro _ ⟨a, rfl⟩
  refine wp_seq (wp_if (b := false) (et_is (et_or (et_test (ev_isN (cv_is_state (ev_rep (ev_t1 ev_int) ev_int (by simp) (by decide) (by decide) (by simp)) ev_int) ev_bl)) (fun _ => et_or (et_test (ev_isN (cv_is_state (ev_tup (ea_cons ev_int (ea_cons ev_int (ea_cons ev_int ea_nil))) (szI (by show (3 : Nat) ≤ 100000; decide))) ev_int) ev_bl)) (fun _ => et_test (ev_isN (cv_is_net (EvN.toD (ev_list (EvD.toQ (ev_im rfl)))) (fun a es e => by cases e)) ev_bl)))) rfl) (fun hb => absurd hb (by decide)) (fun _ => wp_next ?_))
  refine wp_ret (ev_is (ev_andV (ev_isB (cv_is_state (ev_rep (ev_t1 ev_int) ev_int (by simp) (by decide) (by decide) (by simp)) ev_int) ev_bl) (fun _ => ev_isB (cv_is_net (ev_tup (ea_cons ev_int (ea_cons (ev_tup (ea_cons (ev_tup (ea_cons ev_int (ea_cons ev_int ea_nil)) (szI (by show (2 : Nat) ≤ 100000; decide))) (ea_cons (ev_tup (ea_cons ev_int (ea_cons ev_int ea_nil)) (szI (by show (2 : Nat) ≤ 100000; decide))) ea_nil)) (szI (by show (2 : Nat) ≤ 100000; decide))) ea_nil)) (szI (by show (2 : Nat) ≤ 100000; decide))) (small_of_len (by simp))) ev_bl)) ?_) rfl
  rfl
end
theorem all_mk {l : PySem.W.OpenLaw} {w : World} {K : PySem.W.Frag} {h : Heap} {mg : Str → Option Value} {fa : Addr} (X : K.In h) (G : h.Ns mainGlobals mg) (hfa : mg "law" = some (.ref fa))
    {f__law_mix : Addr} {oc__law_mix kV__law_mix dc__law_mix pm__law_mix cd__law_mix ct__law_mix : Value} {od__law_mix an__law_mix : Option Addr} {sl__law_mix : Array (Option Value)}
    (a__law_mix : PySem.W.nsIn K mainGlobals "_law_mix" = some (some (.ref f__law_mix)))
    (l__law_mix : K.lookup f__law_mix = some ⟨oc__law_mix, od__law_mix, .func (PySem.W.fnOf "_law_mix" "_law_mix" (defArgs s__law_mix) (defBody s__law_mix) (defScope s__law_mix) .none kV__law_mix dc__law_mix pm__law_mix an__law_mix cd__law_mix ct__law_mix), sl__law_mix⟩)
    (c__law_mix : PySem.W.codeIn K cd__law_mix "_law_mix" = true) (k__law_mix : PySem.W.keepIn K (.ref f__law_mix) = true)
    {f__law_cell : Addr} {oc__law_cell kV__law_cell dc__law_cell pm__law_cell cd__law_cell ct__law_cell : Value} {od__law_cell an__law_cell : Option Addr} {sl__law_cell : Array (Option Value)}
    (a__law_cell : PySem.W.nsIn K mainGlobals "_law_cell" = some (some (.ref f__law_cell)))
    (l__law_cell : K.lookup f__law_cell = some ⟨oc__law_cell, od__law_cell, .func (PySem.W.fnOf "_law_cell" "_law_cell" (defArgs s__law_cell) (defBody s__law_cell) (defScope s__law_cell) .none kV__law_cell dc__law_cell pm__law_cell an__law_cell cd__law_cell ct__law_cell), sl__law_cell⟩)
    (c__law_cell : PySem.W.codeIn K cd__law_cell "_law_cell" = true) (k__law_cell : PySem.W.keepIn K (.ref f__law_cell) = true)
    {f__law_size : Addr} {oc__law_size kV__law_size dc__law_size pm__law_size cd__law_size ct__law_size : Value} {od__law_size an__law_size : Option Addr} {sl__law_size : Array (Option Value)}
    (a__law_size : PySem.W.nsIn K mainGlobals "_law_size" = some (some (.ref f__law_size)))
    (l__law_size : K.lookup f__law_size = some ⟨oc__law_size, od__law_size, .func (PySem.W.fnOf "_law_size" "_law_size" (defArgs s__law_size) (defBody s__law_size) (defScope s__law_size) .none kV__law_size dc__law_size pm__law_size an__law_size cd__law_size ct__law_size), sl__law_size⟩)
    (c__law_size : PySem.W.codeIn K cd__law_size "_law_size" = true) (k__law_size : PySem.W.keepIn K (.ref f__law_size) = true)
    {f__law_state : Addr} {oc__law_state kV__law_state dc__law_state pm__law_state cd__law_state ct__law_state : Value} {od__law_state an__law_state : Option Addr} {sl__law_state : Array (Option Value)}
    (a__law_state : PySem.W.nsIn K mainGlobals "_law_state" = some (some (.ref f__law_state)))
    (l__law_state : K.lookup f__law_state = some ⟨oc__law_state, od__law_state, .func (PySem.W.fnOf "_law_state" "_law_state" (defArgs s__law_state) (defBody s__law_state) (defScope s__law_state) .none kV__law_state dc__law_state pm__law_state an__law_state cd__law_state ct__law_state), sl__law_state⟩)
    (c__law_state : PySem.W.codeIn K cd__law_state "_law_state" = true) (k__law_state : PySem.W.keepIn K (.ref f__law_state) = true)
    {f__law_net : Addr} {oc__law_net kV__law_net dc__law_net pm__law_net cd__law_net ct__law_net : Value} {od__law_net an__law_net : Option Addr} {sl__law_net : Array (Option Value)}
    (a__law_net : PySem.W.nsIn K mainGlobals "_law_net" = some (some (.ref f__law_net)))
    (l__law_net : K.lookup f__law_net = some ⟨oc__law_net, od__law_net, .func (PySem.W.fnOf "_law_net" "_law_net" (defArgs s__law_net) (defBody s__law_net) (defScope s__law_net) .none kV__law_net dc__law_net pm__law_net an__law_net cd__law_net ct__law_net), sl__law_net⟩)
    (c__law_net : PySem.W.codeIn K cd__law_net "_law_net" = true) (k__law_net : PySem.W.keepIn K (.ref f__law_net) = true)
    {f_is_number : Addr} {oc_is_number kV_is_number dc_is_number pm_is_number cd_is_number ct_is_number : Value} {od_is_number an_is_number : Option Addr} {sl_is_number : Array (Option Value)}
    (a_is_number : PySem.W.nsIn K mainGlobals "is_number" = some (some (.ref f_is_number)))
    (l_is_number : K.lookup f_is_number = some ⟨oc_is_number, od_is_number, .func (PySem.W.fnOf "is_number" "is_number" (defArgs s_is_number) (defBody s_is_number) (defScope s_is_number) .none kV_is_number dc_is_number pm_is_number an_is_number cd_is_number ct_is_number), sl_is_number⟩)
    (c_is_number : PySem.W.codeIn K cd_is_number "is_number" = true) (k_is_number : PySem.W.keepIn K (.ref f_is_number) = true)
    {f_is_state : Addr} {oc_is_state kV_is_state dc_is_state pm_is_state cd_is_state ct_is_state : Value} {od_is_state an_is_state : Option Addr} {sl_is_state : Array (Option Value)}
    (a_is_state : PySem.W.nsIn K mainGlobals "is_state" = some (some (.ref f_is_state)))
    (l_is_state : K.lookup f_is_state = some ⟨oc_is_state, od_is_state, .func (PySem.W.fnOf "is_state" "is_state" (defArgs s_is_state) (defBody s_is_state) (defScope s_is_state) .none kV_is_state dc_is_state pm_is_state an_is_state cd_is_state ct_is_state), sl_is_state⟩)
    (c_is_state : PySem.W.codeIn K cd_is_state "is_state" = true) (k_is_state : PySem.W.keepIn K (.ref f_is_state) = true)
    {f_is_edge : Addr} {oc_is_edge kV_is_edge dc_is_edge pm_is_edge cd_is_edge ct_is_edge : Value} {od_is_edge an_is_edge : Option Addr} {sl_is_edge : Array (Option Value)}
    (a_is_edge : PySem.W.nsIn K mainGlobals "is_edge" = some (some (.ref f_is_edge)))
    (l_is_edge : K.lookup f_is_edge = some ⟨oc_is_edge, od_is_edge, .func (PySem.W.fnOf "is_edge" "is_edge" (defArgs s_is_edge) (defBody s_is_edge) (defScope s_is_edge) .none kV_is_edge dc_is_edge pm_is_edge an_is_edge cd_is_edge ct_is_edge), sl_is_edge⟩)
    (c_is_edge : PySem.W.codeIn K cd_is_edge "is_edge" = true) (k_is_edge : PySem.W.keepIn K (.ref f_is_edge) = true)
    {f_is_net : Addr} {oc_is_net kV_is_net dc_is_net pm_is_net cd_is_net ct_is_net : Value} {od_is_net an_is_net : Option Addr} {sl_is_net : Array (Option Value)}
    (a_is_net : PySem.W.nsIn K mainGlobals "is_net" = some (some (.ref f_is_net)))
    (l_is_net : K.lookup f_is_net = some ⟨oc_is_net, od_is_net, .func (PySem.W.fnOf "is_net" "is_net" (defArgs s_is_net) (defBody s_is_net) (defScope s_is_net) .none kV_is_net dc_is_net pm_is_net an_is_net cd_is_net ct_is_net), sl_is_net⟩)
    (c_is_net : PySem.W.codeIn K cd_is_net "is_net" = true) (k_is_net : PySem.W.keepIn K (.ref f_is_net) = true)
    {f__law_bad_state : Addr} {oc__law_bad_state kV__law_bad_state dc__law_bad_state pm__law_bad_state cd__law_bad_state ct__law_bad_state : Value} {od__law_bad_state an__law_bad_state : Option Addr} {sl__law_bad_state : Array (Option Value)}
    (a__law_bad_state : PySem.W.nsIn K mainGlobals "_law_bad_state" = some (some (.ref f__law_bad_state)))
    (l__law_bad_state : K.lookup f__law_bad_state = some ⟨oc__law_bad_state, od__law_bad_state, .func (PySem.W.fnOf "_law_bad_state" "_law_bad_state" (defArgs s__law_bad_state) (defBody s__law_bad_state) (defScope s__law_bad_state) .none kV__law_bad_state dc__law_bad_state pm__law_bad_state an__law_bad_state cd__law_bad_state ct__law_bad_state), sl__law_bad_state⟩)
    (c__law_bad_state : PySem.W.codeIn K cd__law_bad_state "_law_bad_state" = true) (k__law_bad_state : PySem.W.keepIn K (.ref f__law_bad_state) = true)
    {f__law_bad_net : Addr} {oc__law_bad_net kV__law_bad_net dc__law_bad_net pm__law_bad_net cd__law_bad_net ct__law_bad_net : Value} {od__law_bad_net an__law_bad_net : Option Addr} {sl__law_bad_net : Array (Option Value)}
    (a__law_bad_net : PySem.W.nsIn K mainGlobals "_law_bad_net" = some (some (.ref f__law_bad_net)))
    (l__law_bad_net : K.lookup f__law_bad_net = some ⟨oc__law_bad_net, od__law_bad_net, .func (PySem.W.fnOf "_law_bad_net" "_law_bad_net" (defArgs s__law_bad_net) (defBody s__law_bad_net) (defScope s__law_bad_net) .none kV__law_bad_net dc__law_bad_net pm__law_bad_net an__law_bad_net cd__law_bad_net ct__law_bad_net), sl__law_bad_net⟩)
    (c__law_bad_net : PySem.W.codeIn K cd__law_bad_net "_law_bad_net" = true) (k__law_bad_net : PySem.W.keepIn K (.ref f__law_bad_net) = true)
    {f_law : Addr} {oc_law kV_law dc_law pm_law cd_law ct_law : Value} {od_law an_law : Option Addr} {sl_law : Array (Option Value)}
    (a_law : PySem.W.nsIn K mainGlobals "law" = some (some (.ref f_law)))
    (l_law : K.lookup f_law = some ⟨oc_law, od_law, .func (PySem.W.fnOf "law" "law" (defArgs s_law) (defBody s_law) (defScope s_law) .none kV_law dc_law pm_law an_law cd_law ct_law), sl_law⟩)
    (c_law : PySem.W.codeIn K cd_law "law" = true) (k_law : PySem.W.keepIn K (.ref f_law) = true)
    (b_len : PySem.W.nsIn K mainGlobals "len" = some none)
    (b_sorted : PySem.W.nsIn K mainGlobals "sorted" = some none)
    (b_min : PySem.W.nsIn K mainGlobals "min" = some none)
    (b_max : PySem.W.nsIn K mainGlobals "max" = some none)
    (b_all : PySem.W.nsIn K mainGlobals "all" = some none)
    (b_isinstance : PySem.W.nsIn K mainGlobals "isinstance" = some none)
    (b_tuple : PySem.W.nsIn K mainGlobals "tuple" = some none)
    (b_list : PySem.W.nsIn K mainGlobals "list" = some none)
    (b_int : PySem.W.nsIn K mainGlobals "int" = some none)
    (b_bool : PySem.W.nsIn K mainGlobals "bool" = some none)
    (b_range : PySem.W.nsIn K mainGlobals "range" = some none)
    (b_enumerate : PySem.W.nsIn K mainGlobals "enumerate" = some none)
    (b_reversed : PySem.W.nsIn K mainGlobals "reversed" = some none)
    (b_ValueError : PySem.W.nsIn K mainGlobals "ValueError" = some none)
    : ∃ fd : FuncData, (∀ (s : Shared) (v : Value), BindsTo s fd ⟨[v], []⟩ [("_law_script", v)]) ∧ ∀ base : Heap, K.In base → base.Ns mainGlobals mg → FnOk l.prog w K mg base CX0 4 fa fd ["_law_script"] (spR K F_law) := by
  have e := hfa.symm.trans (PySem.W.mg_of X G a_law)
  cases e
  have T : Bt mg := ⟨PySem.W.mg_none_of X G b_len, PySem.W.mg_none_of X G b_sorted, PySem.W.mg_none_of X G b_min, PySem.W.mg_none_of X G b_max, PySem.W.mg_none_of X G b_all, PySem.W.mg_none_of X G b_isinstance, PySem.W.mg_none_of X G b_tuple, PySem.W.mg_none_of X G b_list, PySem.W.mg_none_of X G b_int, PySem.W.mg_none_of X G b_bool, PySem.W.mg_none_of X G b_range, PySem.W.mg_none_of X G b_enumerate, PySem.W.mg_none_of X G b_reversed, PySem.W.mg_none_of X G b_ValueError⟩
  refine ⟨PySem.W.fnOf "law" "law" (defArgs s_law) (defBody s_law) (defScope s_law) .none kV_law dc_law pm_law an_law cd_law ct_law, fun s v => .of_eq rfl, fun base _ _ => ?_⟩
  have g__law_mix := ok__law_mix (P := l.prog) (w := w) (base := base) ⟨fun_mk (st := s__law_mix) l__law_mix c__law_mix k__law_mix, PySem.W.mg_of X G a__law_mix⟩ T
  have g__law_cell := ok__law_cell (P := l.prog) (w := w) (base := base) ⟨fun_mk (st := s__law_cell) l__law_cell c__law_cell k__law_cell, PySem.W.mg_of X G a__law_cell⟩ T
  have g__law_size := ok__law_size (P := l.prog) (w := w) (base := base) ⟨fun_mk (st := s__law_size) l__law_size c__law_size k__law_size, PySem.W.mg_of X G a__law_size⟩ T g__law_mix g__law_cell
  have g__law_state := ok__law_state (P := l.prog) (w := w) (base := base) ⟨fun_mk (st := s__law_state) l__law_state c__law_state k__law_state, PySem.W.mg_of X G a__law_state⟩ T g__law_mix g__law_cell g__law_size
  have g__law_net := ok__law_net (P := l.prog) (w := w) (base := base) ⟨fun_mk (st := s__law_net) l__law_net c__law_net k__law_net, PySem.W.mg_of X G a__law_net⟩ T g__law_mix g__law_cell
  have g_is_number := ok_is_number (P := l.prog) (w := w) (base := base) ⟨fun_mk (st := s_is_number) l_is_number c_is_number k_is_number, PySem.W.mg_of X G a_is_number⟩ T
  have g_is_state := ok_is_state (P := l.prog) (w := w) (base := base) ⟨fun_mk (st := s_is_state) l_is_state c_is_state k_is_state, PySem.W.mg_of X G a_is_state⟩ T g_is_number
  have g_is_edge := ok_is_edge (P := l.prog) (w := w) (base := base) ⟨fun_mk (st := s_is_edge) l_is_edge c_is_edge k_is_edge, PySem.W.mg_of X G a_is_edge⟩ T g_is_number
  have g_is_net := ok_is_net (P := l.prog) (w := w) (base := base) ⟨fun_mk (st := s_is_net) l_is_net c_is_net k_is_net, PySem.W.mg_of X G a_is_net⟩ T g_is_number g_is_edge
  have g__law_bad_state := ok__law_bad_state (P := l.prog) (w := w) (base := base) ⟨fun_mk (st := s__law_bad_state) l__law_bad_state c__law_bad_state k__law_bad_state, PySem.W.mg_of X G a__law_bad_state⟩ T
  have g__law_bad_net := ok__law_bad_net (P := l.prog) (w := w) (base := base) ⟨fun_mk (st := s__law_bad_net) l__law_bad_net c__law_bad_net k__law_bad_net, PySem.W.mg_of X G a__law_bad_net⟩ T
  exact fn_law (P := l.prog) (w := w) (base := base) ⟨fun_mk (st := s_law) l_law c_law k_law, PySem.W.mg_of X G a_law⟩ T g__law_size g__law_state g__law_net g_is_state g_is_net g__law_bad_state g__law_bad_net

theorem walk {l : PySem.W.OpenLaw} {q : Program} {loose : List Str} {XP : (Str → Option Value) → Heap → Prop} {YP : World → Heap → Prop} {d : DefRec} {K : Params → PySem.W.Frag} (hn : l.most = some 63) (hdf : d.params.defaults = [])
    (hY : ∀ (w : World) (h : Heap), YP w h → (K w.params).In h)
    (F : ∀ (w : World) (mg : Str → Option Value) (fa : Addr) (h : Heap), (K w.params).In h → h.Ns mainGlobals mg → mg d.name = some (.ref fa) →
      ∃ fd : FuncData, (∀ (s : Shared) (u : Value), BindsTo s fd ⟨[u], []⟩ [("_law_script", u)]) ∧ ∀ base : Heap, (K w.params).In base → base.Ns mainGlobals mg → FnOk l.prog w (K w.params) mg base CX0 4 fa fd ["_law_script"] (spR (K w.params) F_law)) :
    PySem.W.WalkO q loose XP YP l.row.toRowW d [] (fun f vs => PySem.call f vs) :=
  L2.walk_ofB (n := 63) (k := 4) (x := "_law_script") (CX := fun _ => CX0) (sp := fun w => spR (K w.params) F_law) hn (by decide) hdf ⟨rfl, by decide, by decide⟩ hY F
    (fun w H a ns hl hb _ hS => ⟨H, [lI ns], .bool true, .refl _, .cons (.lst hS (dpa_ints ns)) .nil, ⟨ns, rfl, hl, hb, rfl⟩, fun v B' H' _ h => by cases h; rfl⟩) fun _ _ _ _ _ z => z
end Od

open PySem PySem.W PyProof.Rows in
set_option maxRecDepth 100000 in
set_option maxHeartbeats 0 in
theorem PySem.Challenge.cw_oddreel_k01_states_and_nets_holds : PySem.Challenge.rw_oddreel_k01_states_and_nets.Holds := by
  w_on; o_law; k_head; (case hw => w_witness2)
  k_fill
  refine Od.walk (l := PySem.Challenge.rw_oddreel_k01_states_and_nets) rfl rfl (fun w h Y => PySem.W.kIn_of Y) ?F
  case F =>
    intro w mg fa h KX G hmg
    refine' Od.all_mk KX G hmg ?a__law_mix ?l__law_mix ?c__law_mix ?k__law_mix ?a__law_cell ?l__law_cell ?c__law_cell ?k__law_cell ?a__law_size ?l__law_size ?c__law_size ?k__law_size ?a__law_state ?l__law_state ?c__law_state ?k__law_state ?a__law_net ?l__law_net ?c__law_net ?k__law_net ?a_is_number ?l_is_number ?c_is_number ?k_is_number ?a_is_state ?l_is_state ?c_is_state ?k_is_state ?a_is_edge ?l_is_edge ?c_is_edge ?k_is_edge ?a_is_net ?l_is_net ?c_is_net ?k_is_net ?a__law_bad_state ?l__law_bad_state ?c__law_bad_state ?k__law_bad_state ?a__law_bad_net ?l__law_bad_net ?c__law_bad_net ?k__law_bad_net ?a_law ?l_law ?c_law ?k_law ?b_len ?b_sorted ?b_min ?b_max ?b_all ?b_isinstance ?b_tuple ?b_list ?b_int ?b_bool ?b_range ?b_enumerate ?b_reversed ?b_ValueError
    (case a__law_mix => k_is)
    (case l__law_mix => k_is)
    (case c__law_mix => k_is)
    (case k__law_mix => k_is)
    (case a__law_cell => k_is)
    (case l__law_cell => k_is)
    (case c__law_cell => k_is)
    (case k__law_cell => k_is)
    (case a__law_size => k_is)
    (case l__law_size => k_is)
    (case c__law_size => k_is)
    (case k__law_size => k_is)
    (case a__law_state => k_is)
    (case l__law_state => k_is)
    (case c__law_state => k_is)
    (case k__law_state => k_is)
    (case a__law_net => k_is)
    (case l__law_net => k_is)
    (case c__law_net => k_is)
    (case k__law_net => k_is)
    (case a_is_number => k_is)
    (case l_is_number => k_is)
    (case c_is_number => k_is)
    (case k_is_number => k_is)
    (case a_is_state => k_is)
    (case l_is_state => k_is)
    (case c_is_state => k_is)
    (case k_is_state => k_is)
    (case a_is_edge => k_is)
    (case l_is_edge => k_is)
    (case c_is_edge => k_is)
    (case k_is_edge => k_is)
    (case a_is_net => k_is)
    (case l_is_net => k_is)
    (case c_is_net => k_is)
    (case k_is_net => k_is)
    (case a__law_bad_state => k_is)
    (case l__law_bad_state => k_is)
    (case c__law_bad_state => k_is)
    (case k__law_bad_state => k_is)
    (case a__law_bad_net => k_is)
    (case l__law_bad_net => k_is)
    (case c__law_bad_net => k_is)
    (case k__law_bad_net => k_is)
    (case a_law => k_is)
    (case l_law => k_is)
    (case c_law => k_is)
    (case k_law => k_is)
    (case b_len => k_is)
    (case b_sorted => k_is)
    (case b_min => k_is)
    (case b_max => k_is)
    (case b_all => k_is)
    (case b_isinstance => k_is)
    (case b_tuple => k_is)
    (case b_list => k_is)
    (case b_int => k_is)
    (case b_bool => k_is)
    (case b_range => k_is)
    (case b_enumerate => k_is)
    (case b_reversed => k_is)
    (case b_ValueError => k_is)
