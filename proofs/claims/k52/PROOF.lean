import PyProof.Rows.All
import Wide.All
import OpenK.AllK
import Wide.FinOn
import HandS.ForMost
import HandS.TupSets
import HandS.Evl
import HandS.Deep
import HandS.TupAny
import HandS.Style
import HandS.Conv
import HandS.IsInst
import HandS.ClsMeth
import HandS.Property
import HandS.SortInts
import HandS.Wide
import HandS.TupLe
import HandS.SetFor
import HandS.Zip
import HandS.SlotsOwn
import HandS.DictSub
import KE.KMathGC
import KE.KExcSuper
import HandS.ForSpec
import HandS.ExcInit
import HandS.TryMany
import HandS.ExcField
import HandS.ExcIs
import HandS.DictComp
import HandS.Defaults
import PySem.Challenge.RW_neveralone_k52_whole_every_even_book_by
set_option Elab.async false
set_option linter.all false
set_option maxRecDepth 100000
set_option maxHeartbeats 4000000
set_option autoImplicit false
namespace NA
open PySem PySem.Spec PyProof.Rows L2

/-! ### data -/
inductive D where
  | non | bl (b : Bool) | int (i : Int) | str (s : Str) | tup (ds : List D) | lst (ds : List D) | scr (ns : List Int) | book (n s : Int) (rs : List (List Int)) | dct (kvs : List (List Int × Int)) | raw (v : V)
abbrev room (r : List Int) : D := .tup (r.map D.int)
abbrev rooms (rs : List (List Int)) : D := .lst (rs.map room)
abbrev trooms (rs : List (List Int)) : D := .tup (rs.map room)
def dctK (kvs : List (List Int × Int)) : List (List L2.Key × V) := kvs.map fun kv => (kv.1.map Sum.inl, V.int kv.2)
def bookF (n s : Int) (r : V) : List (Str × V) := [("places", .int n), ("size", .int s), ("rooms", r)]

mutual
/-- the value stands for the datum, in the steady heap -/
inductive Is (K : PySem.W.Frag) (C : Addr) (S : Hp) : V → D → Prop
  | non : Is K C S .non .non
  | bl (b : Bool) : Is K C S (.bl b) (.bl b)
  | int (i : Int) : Is K C S (.int i) (.int i)
  | str (s : Str) : Is K C S (.str s) (.str s)
  | tup {p : Addr} {vs : List V} {ds : List D} : S p = some (.tup vs) → IsL K C S vs ds → ds.length ≤ 1000 → Is K C S (.ref p) (.tup ds)
  | lst {p : Addr} {vs : List V} {ds : List D} : S p = some (.lst vs) → IsL K C S vs ds → ds.length ≤ 1000 → Is K C S (.ref p) (.lst ds)
  | scr {p : Addr} {ns : List Int} : SqL K S p (ns.map V.int) → ns.length ≤ 63 → Is K C S (.ref p) (.scr ns)
  | book {p dx : Addr} {n s : Int} {r : V} {rs : List (List Int)} : S p = some (.ins C dx (bookF n s r)) → Is K C S r (trooms rs) → Is K C S (.ref p) (.book n s rs)
  | dct {p : Addr} {kvs : List (List Int × Int)} : S p = some (.dT (dctK kvs)) → kvs.length ≤ 1000 → Is K C S (.ref p) (.dct kvs)
  | raw (v : V) : Is K C S v (.raw v)
inductive IsL (K : PySem.W.Frag) (C : Addr) (S : Hp) : List V → List D → Prop
  | nil : IsL K C S [] []
  | cons {v : V} {vs : List V} {d : D} {ds : List D} : Is K C S v d → IsL K C S vs ds → IsL K C S (v :: vs) (d :: ds)
end

section
variable {K : PySem.W.Frag} {C : Addr} {S S' H H' : Hp}
theorem Same.seqL {a : Addr} {xs : List V} (e : Same S S') (h : SqL K S a xs) : SqL K S' a xs := L2.Same.seq e h
mutual
theorem Is.mono (e : Same S S') : ∀ {v : V} {d : D}, Is K C S v d → Is K C S' v d
  | _, _, .non => .non
  | _, _, .bl b => .bl b
  | _, _, .int i => .int i
  | _, _, .str s => .str s
  | _, _, .tup h l n => .tup (e _ _ h) (IsL.mono e l) n
  | _, _, .lst h l n => .lst (e _ _ h) (IsL.mono e l) n
  | _, _, .scr h n => .scr (L2.Same.seq e h) n
  | _, _, .book h r => .book (e _ _ h) (Is.mono e r)
  | _, _, .dct h n => .dct (e _ _ h) n
  | _, _, .raw v => .raw v
theorem IsL.mono (e : Same S S') : ∀ {vs : List V} {ds : List D}, IsL K C S vs ds → IsL K C S' vs ds
  | _, _, .nil => .nil
  | _, _, .cons h t => .cons (Is.mono e h) (IsL.mono e t)
end
theorem IsL.length : ∀ {vs : List V} {ds : List D}, IsL K C S vs ds → vs.length = ds.length
  | _, _, .nil => rfl
  | _, _, .cons _ t => congrArg (· + 1) (IsL.length t)
theorem IsL.get : ∀ {vs : List V} {ds : List D} {i : Nat} {v : V}, IsL K C S vs ds → vs[i]? = some v → ∃ d, ds[i]? = some d ∧ Is K C S v d
  | _, _, _, _, .nil, e => by simp at e
  | _, _, 0, _, .cons h _, e => by simp at e; subst e; exact ⟨_, rfl, h⟩
  | _, _, i + 1, _, .cons _ t, e => by
    obtain ⟨d, h1, h2⟩ := IsL.get (i := i) t (by simpa using e)
    exact ⟨d, by simpa using h1, h2⟩
theorem IsL.getD : ∀ {vs : List V} {ds : List D} {i : Nat} {d : D}, IsL K C S vs ds → ds[i]? = some d → ∃ v, vs[i]? = some v ∧ Is K C S v d
  | _, _, _, _, .nil, e => by simp at e
  | _, _, 0, _, .cons h _, e => by simp at e; subst e; exact ⟨_, rfl, h⟩
  | _, _, i + 1, _, .cons _ t, e => by
    obtain ⟨d, h1, h2⟩ := IsL.getD (i := i) t (by simpa using e)
    exact ⟨d, by simpa using h1, h2⟩
theorem IsL.append : ∀ {vs ws : List V} {ds es : List D}, IsL K C S vs ds → IsL K C S ws es → IsL K C S (vs ++ ws) (ds ++ es)
  | _, _, _, _, .nil, h => h
  | _, _, _, _, .cons a t, h => .cons a (IsL.append t h)
theorem IsL.take : ∀ {vs : List V} {ds : List D} (n : Nat), IsL K C S vs ds → IsL K C S (vs.take n) (ds.take n)
  | _, _, 0, _ => .nil
  | _, _, _ + 1, .nil => .nil
  | _, _, n + 1, .cons a t => .cons a (IsL.take n t)
theorem IsL.drop : ∀ {vs : List V} {ds : List D} (n : Nat), IsL K C S vs ds → IsL K C S (vs.drop n) (ds.drop n)
  | _, _, 0, h => h
  | _, _, _ + 1, .nil => .nil
  | _, _, n + 1, .cons _ t => IsL.drop n t
theorem IsL.set : ∀ {vs : List V} {ds : List D} (n : Nat) {v : V} {d : D}, Is K C S v d → IsL K C S vs ds → IsL K C S (vs.set n v) (ds.set n d)
  | _, _, _, _, _, _, .nil => .nil
  | _, _, 0, _, _, a, .cons _ t => .cons a t
  | _, _, n + 1, _, _, a, .cons b t => .cons b (IsL.set n a t)
theorem IsL.reverse : ∀ {vs : List V} {ds : List D}, IsL K C S vs ds → IsL K C S vs.reverse ds.reverse
  | _, _, .nil => .nil
  | _, _, .cons a t => by rw [List.reverse_cons, List.reverse_cons]; exact (IsL.reverse t).append (.cons a .nil)
theorem Is.int_inv {v : V} {i : Int} (h : Is K C S v (.int i)) : v = .int i := by cases h; rfl
theorem Is.raw_inv {v w : V} (h : Is K C S v (.raw w)) : v = w := by cases h; rfl
theorem Is.bl_inv {v : V} {b : Bool} (h : Is K C S v (.bl b)) : v = .bl b := by cases h; rfl
theorem Is.str_inv {v : V} {s : Str} (h : Is K C S v (.str s)) : v = .str s := by cases h; rfl
theorem IsL.ints : ∀ {vs : List V} {ns : List Int}, IsL K C S vs (ns.map D.int) → vs = ns.map V.int
  | _, [], .nil => rfl
  | _, n :: ns, .cons h t => by
    rw [h.int_inv, IsL.ints t]; rfl
theorem isL_ints : ∀ (ns : List Int), IsL K C S (ns.map V.int) (ns.map D.int)
  | [] => .nil
  | n :: ns => .cons (.int n) (isL_ints ns)
theorem Is.tup_inv {v : V} {ds : List D} (h : Is K C S v (.tup ds)) : ∃ p vs, v = .ref p ∧ S p = some (.tup vs) ∧ IsL K C S vs ds ∧ ds.length ≤ 1000 := by
  cases h with
  | tup h l n => exact ⟨_, _, rfl, h, l, n⟩
theorem Is.lst_inv {v : V} {ds : List D} (h : Is K C S v (.lst ds)) : ∃ p vs, v = .ref p ∧ S p = some (.lst vs) ∧ IsL K C S vs ds ∧ ds.length ≤ 1000 := by
  cases h with
  | lst h l n => exact ⟨_, _, rfl, h, l, n⟩
theorem Is.room_inv {v : V} {r : List Int} (h : Is K C S v (room r)) : ∃ p, v = .ref p ∧ S p = some (.tup (r.map V.int)) ∧ r.length ≤ 1000 := by
  obtain ⟨p, vs, e, h1, h2, n⟩ := h.tup_inv
  rw [h2.ints] at h1
  exact ⟨p, e, h1, by simpa using n⟩
theorem is_room {p : Addr} {r : List Int} (h : S p = some (.tup (r.map V.int))) (n : r.length ≤ 1000) : Is K C S (.ref p) (room r) := .tup h (isL_ints r) (by simpa using n)

/-! ### how the heaps grow -/
structure Grow (S H S' H' : Hp) : Prop where
  hs : Same S S'
  le : Same S' H'
  hh : Same H H'
  fr : ∀ a o, S' a = some o → S a = none → H a = none ∨ ∃ xs, o = .tup xs
theorem Grow.refl (e : Same S H) : Grow S H S H := ⟨Same.refl S, e, Same.refl H, fun a o h h' => by rw [h] at h'; cases h'⟩
theorem Grow.trans {S1 H1 S2 H2 : Hp} (a : Grow S H S1 H1) (b : Grow S1 H1 S2 H2) : Grow S H S2 H2 := by
  refine ⟨a.hs.trans b.hs, b.le, a.hh.trans b.hh, fun x o h h' => ?_⟩
  cases e : S1 x with
  | none =>
    rcases b.fr x o h e with q | q
    · refine .inl ?_
      cases e2 : H x with
      | none => rfl
      | some u => rw [a.hh x u e2] at q; cases q
    · exact .inr q
  | some u =>
    have e3 := b.hs x u e
    rw [h] at e3; cases e3
    exact a.fr x _ e h'
theorem same_upd {p : Addr} {o : HO} (h : H p = none) : Same H (upd H p o) := fun b x e => by rw [upd_ne (ne_of_none e h)]; exact e
theorem same_free (e : Same S H) {p : Addr} (h : H p = none) : S p = none := by
  cases q : S p with
  | none => rfl
  | some o => rw [e p o q] at h; cases h
/-- a new steady object -/
theorem Grow.new (e : Same S H) {p : Addr} {o : HO} (h : H p = none) : Grow S H (upd S p o) (upd H p o) := by
  have hs := same_free e h
  refine ⟨same_upd hs, fun b x q => ?_, same_upd h, fun a x q q' => ?_⟩
  · by_cases hb : b = p
    · subst hb; rw [upd_same] at q ⊢; exact q
    · rw [upd_ne hb] at q ⊢; exact e b x q
  · by_cases ha : a = p
    · subst ha; exact .inl h
    · rw [upd_ne ha] at q; rw [q] at q'; cases q'
/-- .. that is only in the heap -/
theorem Grow.newM (e : Same S H) {p : Addr} {o : HO} (h : H p = none) : Grow S H S (upd H p o) := by
  have hs := same_free e h
  refine ⟨Same.refl S, fun b x q => ?_, same_upd h, fun a x q q' => by rw [q] at q'; cases q'⟩
  rw [upd_ne (ne_of_none q hs)]; exact e b x q
/-- a tuple that stands becomes steady -/
theorem Grow.addT (e : Same S H) {p : Addr} {xs : List V} (h : H p = some (.tup xs)) : ∃ S', Grow S H S' H ∧ S' p = some (.tup xs) := by
  refine ⟨upd S p (.tup xs), ⟨fun b x q => ?_, fun b x q => ?_, Same.refl H, fun a o q q' => ?_⟩, upd_same⟩
  · by_cases hb : b = p
    · subst hb; have := e b x q; rw [h] at this; cases this; exact upd_same
    · rw [upd_ne hb]; exact q
  · by_cases hb : b = p
    · subst hb; rw [upd_same] at q; cases q; exact h
    · rw [upd_ne hb] at q; exact e b x q
  · by_cases ha : a = p
    · subst ha; rw [upd_same] at q; cases q; exact .inr ⟨_, rfl⟩
    · rw [upd_ne ha] at q; rw [q] at q'; cases q'

/-! ### slots -/
inductive Sl where
  | no | val (d : D) | ml (ds : List D) | md (kvs : List (List Int × D)) | fd (kvs : List (List Int × D))
def Sl.mut : Sl → Bool
  | .ml _ => true
  | .md _ => true
  | .fd _ => true
  | _ => false
/-- a dict's pairs -/
inductive KvOk (K : PySem.W.Frag) (C : Addr) (S : Hp) : List (List L2.Key × V) → List (List Int × D) → Prop
  | nil : KvOk K C S [] []
  | cons {r : List Int} {v : V} {d : D} {ks : List (List L2.Key × V)} {kvs : List (List Int × D)} : Is K C S v d → KvOk K C S ks kvs → KvOk K C S ((r.map Sum.inl, v) :: ks) ((r, d) :: kvs)
def SlOk (K : PySem.W.Frag) (C : Addr) (S H : Hp) (o : Option V) : Sl → Prop
  | .no => True
  | .val d => ∃ v, o = some v ∧ Is K C S v d
  | .ml ds => ∃ p vs, o = some (.ref p) ∧ S p = none ∧ H p = some (.lst vs) ∧ IsL K C S vs ds ∧ ds.length ≤ 1000
  | .md kvs => ∃ p ks, o = some (.ref p) ∧ S p = none ∧ H p = some (.dT ks) ∧ KvOk K C S ks kvs ∧ kvs.length ≤ 1000
  | .fd kvs => ∃ p ob ks, o = some (.ref p) ∧ S p = none ∧ H p = some (.frz ob (.dT ks)) ∧ KvOk K C S ks kvs ∧ kvs.length ≤ 1000
theorem KvOk.mono (e : Same S S') : ∀ {ks : List (List L2.Key × V)} {kvs : List (List Int × D)}, KvOk K C S ks kvs → KvOk K C S' ks kvs
  | _, _, .nil => .nil
  | _, _, .cons h t => .cons (h.mono e) (KvOk.mono e t)
theorem KvOk.length : ∀ {ks : List (List L2.Key × V)} {kvs : List (List Int × D)}, KvOk K C S ks kvs → ks.length = kvs.length
  | _, _, .nil => rfl
  | _, _, .cons _ t => congrArg (· + 1) (KvOk.length t)
structure EnvOk (K : PySem.W.Frag) (C : Addr) (S H : Hp) (σ : L2.St) (Γ : List Sl) : Prop where
  le : Same S H
  len : σ.length = Γ.length
  ok : ∀ (i : Nat) (s : Sl), Γ[i]? = some s → ∃ o, σ[i]? = some o ∧ SlOk K C S H o s
  dis : ∀ (i j : Nat) (s t : Sl) (p : Addr), Γ[i]? = some s → Γ[j]? = some t → s.mut = true → t.mut = true → σ[i]? = some (some (.ref p)) → σ[j]? = some (some (.ref p)) → i = j
theorem Grow.keepM {S1 H1 : Hp} (g : Grow S H S1 H1) {p : Addr} {o : HO} (hS : S p = none) (h : H p = some o) (nt : ∀ xs, o ≠ .tup xs) : S1 p = none ∧ H1 p = some o := by
  have h1 := g.hh p o h
  refine ⟨?_, h1⟩
  cases e : S1 p with
  | none => rfl
  | some u =>
    rcases g.fr p u e hS with q | ⟨xs, rfl⟩
    · rw [h] at q; cases q
    · have := g.le p _ e
      rw [h1] at this; cases this
      exact absurd rfl (nt xs)
theorem SlOk.grow {S1 H1 : Hp} (g : Grow S H S1 H1) {o : Option V} {s : Sl} (h : SlOk K C S H o s) : SlOk K C S1 H1 o s := by
  cases s with
  | no => trivial
  | val d => obtain ⟨v, e, i⟩ := h; exact ⟨v, e, i.mono g.hs⟩
  | ml ds =>
    obtain ⟨p, vs, e, hS, hH, l, n⟩ := h
    obtain ⟨a, b⟩ := g.keepM hS hH (fun xs z => nomatch z)
    exact ⟨p, vs, e, a, b, l.mono g.hs, n⟩
  | md kvs =>
    obtain ⟨p, ks, e, hS, hH, l, n⟩ := h
    obtain ⟨a, b⟩ := g.keepM hS hH (fun xs z => nomatch z)
    exact ⟨p, ks, e, a, b, l.mono g.hs, n⟩
  | fd kvs =>
    obtain ⟨p, ob, ks, e, hS, hH, l, n⟩ := h
    obtain ⟨a, b⟩ := g.keepM hS hH (fun xs z => nomatch z)
    exact ⟨p, ob, ks, e, a, b, l.mono g.hs, n⟩
theorem EnvOk.grow {S1 H1 : Hp} {σ : L2.St} {Γ : List Sl} (E : EnvOk K C S H σ Γ) (g : Grow S H S1 H1) : EnvOk K C S1 H1 σ Γ :=
  ⟨g.le, E.len, fun i s h => let ⟨o, e, q⟩ := E.ok i s h; ⟨o, e, q.grow g⟩, E.dis⟩

/-! ### what an expression evaluates to -/
variable (K C) in
def EvE (te : TE) (Γ : List Sl) (d : D) : Prop := ∀ σ S H, EnvOk K C S H σ Γ → ∀ Q : VK, (∀ v S' H', Grow S H S' H' → Is K C S' v d → Q v H') → te σ H Q
variable (K C) in
def EvT (tt : TT) (Γ : List Sl) (b : Bool) : Prop := ∀ σ S H, EnvOk K C S H σ Γ → ∀ Q : Bool → Hp → Prop, (∀ S' H', Grow S H S' H' → Q b H') → tt σ H Q
variable (K C) in
def EvA (ta : TA) (Γ : List Sl) (ds : List D) : Prop := ∀ σ S H, EnvOk K C S H σ Γ → ∀ Q : List V → Hp → Prop, (∀ vs S' H', Grow S H S' H' → IsL K C S' vs ds → Q vs H') → ta σ H Q
/-- an operation on values -/
def RvD (K : PySem.W.Frag) (C : Addr) (r : R2) (d1 d2 d : D) : Prop := ∀ S H v w, Same S H → Is K C S v d1 → Is K C S w d2 → ∀ Q : VK, (∀ v' S' H', Grow S H S' H' → Is K C S' v' d → Q v' H') → r v w H Q
def RuD (K : PySem.W.Frag) (C : Addr) (r : V → Hp → VK → Prop) (d1 d : D) : Prop := ∀ S H v, Same S H → Is K C S v d1 → ∀ Q : VK, (∀ v' S' H', Grow S H S' H' → Is K C S' v' d → Q v' H') → r v H Q
def RcD (K : PySem.W.Frag) (C : Addr) (r : List V → Hp → VK → Prop) (ds : List D) (d : D) : Prop := ∀ S H vs, Same S H → IsL K C S vs ds → ∀ Q : VK, (∀ v' S' H', Grow S H S' H' → Is K C S' v' d → Q v' H') → r vs H Q

variable {Γ : List Sl} {ta tb te tc : TE} {d d1 d2 d3 : D} {ds : List D} {r : R2} {tA tB' : TT} {b b' : Bool}
theorem ev_var {i : Nat} (h : Γ[i]? = some (.val d)) : EvE K C (tVar i) Γ d := fun σ S H E Q q => by
  obtain ⟨o, e, v, e2, i1⟩ := E.ok i _ h
  subst e2
  exact ⟨v, e, q v S H (Grow.refl E.le) i1⟩
theorem ev_int {i : Int} : EvE K C (tC (.int i)) Γ (.int i) := fun σ S H E Q q => q _ S H (Grow.refl E.le) (.int i)
theorem ev_bl {i : Bool} : EvE K C (tC (.bl i)) Γ (.bl i) := fun σ S H E Q q => q _ S H (Grow.refl E.le) (.bl i)
theorem ev_str {i : Str} : EvE K C (tC (.str i)) Γ (.str i) := fun σ S H E Q q => q _ S H (Grow.refl E.le) (.str i)
theorem ev_non : EvE K C (tC .non) Γ .non := fun σ S H E Q q => q _ S H (Grow.refl E.le) .non
theorem ev_op (ha : EvE K C ta Γ d1) (hb : EvE K C tb Γ d2) (hr : RvD K C r d1 d2 d) : EvE K C (tOp r ta tb) Γ d := fun σ S H E Q q =>
  ha σ S H E _ fun v S1 H1 g1 i1 => hb σ S1 H1 (E.grow g1) _ fun w S2 H2 g2 i2 => hr S2 H2 v w g2.le (i1.mono g2.hs) i2 Q fun v' S3 H3 g3 i3 => q v' S3 H3 ((g1.trans g2).trans g3) i3
theorem ev_un {r : V → Hp → VK → Prop} (ha : EvE K C ta Γ d1) (hr : RuD K C r d1 d) : EvE K C (tUn r ta) Γ d := fun σ S H E Q q =>
  ha σ S H E _ fun v S1 H1 g1 i1 => hr S1 H1 v g1.le i1 Q fun v' S3 H3 g3 i3 => q v' S3 H3 (g1.trans g3) i3
theorem ea_nil : EvA K C tNil Γ [] := fun σ S H E Q q => q [] S H (Grow.refl E.le) .nil
theorem ea_cons {tr : TA} (ha : EvE K C ta Γ d) (hr : EvA K C tr Γ ds) : EvA K C (tCons ta tr) Γ (d :: ds) := fun σ S H E Q q =>
  ha σ S H E _ fun v S1 H1 g1 i1 => hr σ S1 H1 (E.grow g1) _ fun vs S2 H2 g2 i2 => q (v :: vs) S2 H2 (g1.trans g2) (.cons (i1.mono g2.hs) i2)
theorem ev_cb {r : List V → Hp → VK → Prop} {t : TA} (ha : EvA K C t Γ ds) (hr : RcD K C r ds d) : EvE K C (tCB r t) Γ d := fun σ S H E Q q =>
  ha σ S H E _ fun v S1 H1 g1 i1 => hr S1 H1 v g1.le i1 Q fun v' S3 H3 g3 i3 => q v' S3 H3 (g1.trans g3) i3
theorem ev_tup {t : TA} (ha : EvA K C t Γ ds) (hn : ds.length ≤ 1000) : EvE K C (tTup t) Γ (.tup ds) := fun σ S H E Q q =>
  ha σ S H E _ fun vs S1 H1 g1 i1 => ⟨by rw [i1.length]; exact Nat.le_trans hn (by decide), fun p hp => q _ _ _ (g1.trans (Grow.new g1.le hp)) (.tup upd_same (i1.mono (same_upd (same_free g1.le hp))) hn)⟩
theorem ev_lst {t : TA} (ha : EvA K C t Γ ds) (hn : ds.length ≤ 1000) : EvE K C (tLst t) Γ (.lst ds) := fun σ S H E Q q =>
  ha σ S H E _ fun vs S1 H1 g1 i1 => ⟨by rw [i1.length]; exact Nat.le_trans hn (by decide), fun p hp => q _ _ _ (g1.trans (Grow.new g1.le hp)) (.lst upd_same (i1.mono (same_upd (same_free g1.le hp))) hn)⟩
/-- tests -/
theorem et_test (h : EvE K C te Γ (.bl b)) : EvT K C (tTest te) Γ b := fun σ S H E Q q => h σ S H E _ fun v S1 H1 g i => ⟨b, i.bl_inv, q S1 H1 g⟩
theorem et_B (h : EvE K C te Γ (.bl b)) : EvT K C (tB te) Γ b := fun σ S H E Q q => h σ S H E _ fun v S1 H1 g i => ⟨b, i.bl_inv, q S1 H1 g⟩
theorem et_not (h : EvT K C tA Γ b) : EvT K C (tNot tA) Γ (!b) := fun σ S H E Q q => h σ S H E _ fun S1 H1 g => q S1 H1 g
theorem et_and (h1 : EvT K C tA Γ b) (h2 : b = true → EvT K C tB' Γ b') : EvT K C (tAnd tA tB') Γ (b && b') := fun σ S H E Q q => h1 σ S H E _ fun S1 H1 g => by
  cases b with
  | true => exact h2 rfl σ S1 H1 (E.grow g) Q fun S2 H2 g2 => q S2 H2 (g.trans g2)
  | false => exact q S1 H1 g
theorem et_or (h1 : EvT K C tA Γ b) (h2 : b = false → EvT K C tB' Γ b') : EvT K C (tOr tA tB') Γ (b || b') := fun σ S H E Q q => h1 σ S H E _ fun S1 H1 g => by
  cases b with
  | false => exact h2 rfl σ S1 H1 (E.grow g) Q fun S2 H2 g2 => q S2 H2 (g.trans g2)
  | true => exact q S1 H1 g
theorem et_is (h : EvT K C tA Γ b) (e : b = b') : EvT K C tA Γ b' := e ▸ h
theorem ev_is (h : EvE K C te Γ d1) (e : d1 = d) : EvE K C te Γ d := e ▸ h
theorem ev_and (h1 : EvE K C ta Γ (.bl b)) (h2 : b = true → EvE K C tb Γ (.bl b')) : EvE K C (tAndV ta tb) Γ (.bl (b && b')) := fun σ S H E Q q => h1 σ S H E _ fun v S1 H1 g i => ⟨b, i.bl_inv, by
  cases b with
  | true => exact h2 rfl σ S1 H1 (E.grow g) Q fun v S2 H2 g2 => q v S2 H2 (g.trans g2)
  | false => exact q _ S1 H1 g (.bl _)⟩
theorem ev_or (h1 : EvE K C ta Γ (.bl b)) (h2 : b = false → EvE K C tb Γ (.bl b')) : EvE K C (tOrV ta tb) Γ (.bl (b || b')) := fun σ S H E Q q => h1 σ S H E _ fun v S1 H1 g i => ⟨b, i.bl_inv, by
  cases b with
  | false => exact h2 rfl σ S1 H1 (E.grow g) Q fun v S2 H2 g2 => q v S2 H2 (g.trans g2)
  | true => exact q _ S1 H1 g (.bl _)⟩
theorem ev_not (h1 : EvE K C ta Γ (.bl b)) : EvE K C (tNotV ta) Γ (.bl (!b)) := fun σ S H E Q q => h1 σ S H E _ fun v S1 H1 g i => ⟨b, i.bl_inv, q _ S1 H1 g (.bl _)⟩
end

section
variable {K : PySem.W.Frag} {C : Addr} {Γ : List Sl}
/-! ### operators -/
theorem rv_I0 {f : Int → Int → Int} {i j : Int} : RvD K C (rI0 fun i j => .int (f i j)) (.int i) (.int j) (.int (f i j)) := fun S H v w e a b Q q => ⟨i, j, a.int_inv, b.int_inv, q _ S H (Grow.refl e) (.int _)⟩
theorem rv_B0 {f : Int → Int → Bool} {i j : Int} : RvD K C (rI0 fun i j => .bl (f i j)) (.int i) (.int j) (.bl (f i j)) := fun S H v w e a b Q q => ⟨i, j, a.int_inv, b.int_inv, q _ S H (Grow.refl e) (.bl _)⟩
theorem rv_I {f : Int → Int → Int} {c : Int → Int → Prop} {i j : Int} (hc : c i j) : RvD K C (rI c fun i j => .int (f i j)) (.int i) (.int j) (.int (f i j)) := fun S H v w e a b Q q => ⟨i, j, a.int_inv, b.int_inv, hc, q _ S H (Grow.refl e) (.int _)⟩
theorem ru_neg {i : Int} : RuD K C (rU fun i => .int (-i)) (.int i) (.int (-i)) := fun S H v e a Q q => ⟨i, a.int_inv, q _ S H (Grow.refl e) (.int _)⟩
/-- == of scalars -/
def D.v : D → V
  | .int i => .int i
  | .str s => .str s
  | .bl b => .bl b
  | _ => .non
def D.scal : D → D → Bool
  | .int _, .int _ => true
  | .str _, .str _ => true
  | .bl _, .bl _ => true
  | _, _ => false
def D.eqS : D → D → Bool
  | .int i, .int j => decide (i = j)
  | .str i, .str j => decide (i = j)
  | .bl i, .bl j => decide (i = j)
  | _, _ => false
theorem rv_eqI {i j : Int} : RvD K C rEq (.int i) (.int j) (.bl (decide (i = j))) := fun S H v w e a b Q q => by
  rw [a.int_inv, b.int_inv]
  refine ⟨rfl, ?_⟩
  have : decide (V.int i = V.int j) = decide (i = j) := by
    by_cases h : i = j
    · subst h; simp
    · rw [decide_eq_false h, decide_eq_false (fun z => h (V.int.inj z))]
  rw [this]; exact q _ S H (Grow.refl e) (.bl _)
theorem rv_neI {i j : Int} : RvD K C rNe (.int i) (.int j) (.bl (!decide (i = j))) := fun S H v w e a b Q q => by
  rw [a.int_inv, b.int_inv]
  refine ⟨rfl, ?_⟩
  have : decide (V.int i = V.int j) = decide (i = j) := by
    by_cases h : i = j
    · subst h; simp
    · rw [decide_eq_false h, decide_eq_false (fun z => h (V.int.inj z))]
  rw [this]; exact q _ S H (Grow.refl e) (.bl _)
theorem rv_eqS {i j : Str} : RvD K C rEq (.str i) (.str j) (.bl (decide (i = j))) := fun S H v w e a b Q q => by
  rw [a.str_inv, b.str_inv]
  refine ⟨rfl, ?_⟩
  have : decide (V.str i = V.str j) = decide (i = j) := by
    by_cases h : i = j
    · subst h; simp
    · rw [decide_eq_false h, decide_eq_false (fun z => h (V.str.inj z))]
  rw [this]; exact q _ S H (Grow.refl e) (.bl _)
theorem rv_neS {i j : Str} : RvD K C rNe (.str i) (.str j) (.bl (!decide (i = j))) := fun S H v w e a b Q q => by
  rw [a.str_inv, b.str_inv]
  refine ⟨rfl, ?_⟩
  have : decide (V.str i = V.str j) = decide (i = j) := by
    by_cases h : i = j
    · subst h; simp
    · rw [decide_eq_false h, decide_eq_false (fun z => h (V.str.inj z))]
  rw [this]; exact q _ S H (Grow.refl e) (.bl _)
theorem rv_eqB {i j : Bool} : RvD K C rEq (.bl i) (.bl j) (.bl (decide (i = j))) := fun S H v w e a b Q q => by
  rw [a.bl_inv, b.bl_inv]
  refine ⟨rfl, ?_⟩
  have : decide (V.bl i = V.bl j) = decide (i = j) := by
    by_cases h : i = j
    · subst h; simp
    · rw [decide_eq_false h, decide_eq_false (fun z => h (V.bl.inj z))]
  rw [this]; exact q _ S H (Grow.refl e) (.bl _)
/-- tuples, lists joined -/
theorem rv_catT {ds es : List D} (hn : ds.length + es.length ≤ 1000) : RvD K C (rCatA K) (.tup ds) (.tup es) (.tup (ds ++ es)) := fun S H v w e a b Q q => by
  obtain ⟨p, vs, rfl, h1, l1, n1⟩ := a.tup_inv
  obtain ⟨p2, ws, rfl, h2, l2, n2⟩ := b.tup_inv
  refine ⟨p, p2, vs, ws, rfl, rfl, .of (e _ _ h1), .of (e _ _ h2), ?_, fun z => ?_, fun _ z => ?_, fun _ _ x hx => ?_⟩
  · rw [l1.length, l2.length]; exact Nat.le_trans hn (by decide)
  · subst z; cases l1; exact q _ S H (Grow.refl e) b
  · subst z; cases l2; rw [List.append_nil] at q; exact q _ S H (Grow.refl e) a
  · exact q _ _ _ (Grow.new e hx) (.tup upd_same ((l1.append l2).mono (same_upd (same_free e hx))) (by simpa using hn))
theorem rv_catL {ds es : List D} (hn : ds.length + es.length ≤ 1000) : RvD K C rCat (.lst ds) (.lst es) (.lst (ds ++ es)) := fun S H v w e a b Q q => by
  obtain ⟨p, vs, rfl, h1, l1, n1⟩ := a.lst_inv
  obtain ⟨p2, ws, rfl, h2, l2, n2⟩ := b.lst_inv
  refine ⟨p, p2, vs, ws, rfl, rfl, e _ _ h1, e _ _ h2, ?_, fun x hx => ?_⟩
  · rw [l1.length, l2.length]; exact Nat.le_trans hn (by decide)
  · exact q _ _ _ (Grow.new e hx) (.lst upd_same ((l1.append l2).mono (same_upd (same_free e hx))) (by simpa using hn))
/-- items -/
theorem rv_ixT {ds : List D} {i : Int} {j : Nat} {d : D} (hi : i = (j : Int)) (hd : ds[j]? = some d) : RvD K C (rIxT K) (.tup ds) (.int i) d := fun S H v w e a b Q q => by
  obtain ⟨p, vs, rfl, h1, l1, n1⟩ := a.tup_inv
  obtain ⟨v, hv, iv⟩ := l1.getD hd
  exact ⟨p, vs, i, v, rfl, b.int_inv, .of (e _ _ h1), at_of hi hv, q _ S H (Grow.refl e) iv⟩
theorem rv_ixL {ds : List D} {i : Int} {j : Nat} {d : D} (hi : i = (j : Int)) (hd : ds[j]? = some d) : RvD K C (rIxL K) (.lst ds) (.int i) d := fun S H v w e a b Q q => by
  obtain ⟨p, vs, rfl, h1, l1, n1⟩ := a.lst_inv
  obtain ⟨v, hv, iv⟩ := l1.getD hd
  exact ⟨p, vs, i, v, rfl, b.int_inv, .of (e _ _ h1), at_of hi hv, q _ S H (Grow.refl e) iv⟩
theorem rv_ixS {ns : List Int} {i : Int} {j : Nat} {d : Int} (hi : i = (j : Int)) (hd : ns[j]? = some d) : RvD K C (rIxL K) (.scr ns) (.int i) (.int d) := fun S H v w e a b Q q => by
  cases a with
  | scr h n => exact ⟨_, _, i, .int d, rfl, b.int_inv, L2.Same.seq e h, at_of hi (by rw [List.getElem?_map, hd]; rfl), q _ S H (Grow.refl e) (.int _)⟩
/-! ### built-ins -/
theorem rc_lenL {ds : List D} : RcD K C (Evl.rLenS K) [.lst ds] (.int ds.length) := fun S H vs e a Q q => by
  cases a with
  | cons h t =>
    cases t
    obtain ⟨p, vs, rfl, h1, l1, n1⟩ := h.lst_inv
    exact ⟨p, vs, rfl, .inl (.of (e _ _ h1)), by rw [l1.length]; exact q _ S H (Grow.refl e) (.int _)⟩
end
end NA

set_option Elab.async false
set_option linter.all false
set_option maxRecDepth 100000
set_option maxHeartbeats 4000000
set_option autoImplicit false
namespace NA
open PySem PySem.Spec PyProof.Rows L2

section
variable {K : PySem.W.Frag} {C : Addr} {S S' H H' S0 H0 : Hp} {σ : L2.St} {Γ Γ' : List Sl}

theorem slml {p : Addr} {vs : List V} {ds : List D} (hS : S p = none) (hH : H p = some (.lst vs)) (l : IsL K C S vs ds) (n : ds.length ≤ 1000) : SlOk K C S H (some (.ref p)) (.ml ds) := ⟨p, vs, rfl, hS, hH, l, n⟩
theorem slmd {p : Addr} {ks : List (List L2.Key × V)} {kvs : List (List Int × D)} (hS : S p = none) (hH : H p = some (.dT ks)) (l : KvOk K C S ks kvs) (n : kvs.length ≤ 1000) : SlOk K C S H (some (.ref p)) (.md kvs) := ⟨p, ks, rfl, hS, hH, l, n⟩
theorem slfd {p : Addr} {ob : Obj} {ks : List (List L2.Key × V)} {kvs : List (List Int × D)} (hS : S p = none) (hH : H p = some (.frz ob (.dT ks))) (l : KvOk K C S ks kvs) (n : kvs.length ≤ 1000) : SlOk K C S H (some (.ref p)) (.fd kvs) := ⟨p, ob, ks, rfl, hS, hH, l, n⟩
theorem EnvOk.at {i : Nat} {s : Sl} (E : EnvOk K C S H σ Γ) (h : Γ[i]? = some s) : ∃ o, σ[i]? = some o ∧ SlOk K C S H o s := E.ok i s h
/-- a value that is no mutable object is stored -/
theorem EnvOk.set {i : Nat} {v : V} {d : D} (E : EnvOk K C S H σ Γ) (h : Is K C S v d) : EnvOk K C S H (σ.set i (some v)) (Γ.set i (.val d)) := by
  refine ⟨E.le, by simp [E.len], fun j s e => ?_, fun j k s t p e1 e2 m1 m2 f1 f2 => ?_⟩
  · rw [List.getElem?_set] at e
    by_cases hij : i = j
    · subst hij
      by_cases hl : i < Γ.length
      · rw [if_pos rfl, if_pos hl] at e; cases e
        exact ⟨some v, by rw [List.getElem?_set, if_pos rfl, if_pos (by rw [E.len]; exact hl)], v, rfl, h⟩
      · rw [if_pos rfl, if_neg hl] at e; cases e
    · rw [if_neg hij] at e
      rw [List.getElem?_set, if_neg hij]
      exact E.ok j s e
  · rw [List.getElem?_set] at e1 e2 f1 f2
    by_cases h1 : i = j
    · subst h1
      by_cases hl : i < Γ.length
      · rw [if_pos rfl, if_pos hl] at e1; cases e1; cases m1
      · rw [if_pos rfl, if_neg hl] at e1; cases e1
    · by_cases h2 : i = k
      · subst h2
        by_cases hl : i < Γ.length
        · rw [if_pos rfl, if_pos hl] at e2; cases e2; cases m2
        · rw [if_pos rfl, if_neg hl] at e2; cases e2
      · rw [if_neg h1] at e1 f1
        rw [if_neg h2] at e2 f2
        exact E.dis j k s t p e1 e2 m1 m2 f1 f2
theorem SlOk.mutAt {o : Option V} {s : Sl} (h : SlOk K C S H o s) (m : s.mut = true) : ∃ p u, o = some (.ref p) ∧ S p = none ∧ H p = some u ∧ ∀ xs, u ≠ .tup xs := by
  cases s with
  | no => cases m
  | val d => cases m
  | ml ds => obtain ⟨p, vs, e, hS, hH, l, n⟩ := h; exact ⟨p, _, e, hS, hH, fun xs z => nomatch z⟩
  | md kvs => obtain ⟨p, ks, e, hS, hH, l, n⟩ := h; exact ⟨p, _, e, hS, hH, fun xs z => nomatch z⟩
  | fd kvs => obtain ⟨p, ob, ks, e, hS, hH, l, n⟩ := h; exact ⟨p, _, e, hS, hH, fun xs z => nomatch z⟩
/-- a new mutable object is stored -/
theorem SlOk.updNe {o : Option V} {s : Sl} {p : Addr} {u : HO} (h : SlOk K C S H o s) (hp : s.mut = true → o ≠ some (.ref p)) : SlOk K C S (upd H p u) o s := by
  have ne : ∀ q, s.mut = true → o = some (.ref q) → q ≠ p := fun q m e z => hp m (by rw [e, z])
  cases s with
  | no => trivial
  | val d => exact h
  | ml ds => obtain ⟨q, vs, e, hS, hH, l, n⟩ := h; exact ⟨q, vs, e, hS, by rw [upd_ne (ne q rfl e)]; exact hH, l, n⟩
  | md kvs => obtain ⟨q, ks, e, hS, hH, l, n⟩ := h; exact ⟨q, ks, e, hS, by rw [upd_ne (ne q rfl e)]; exact hH, l, n⟩
  | fd kvs => obtain ⟨q, ob, ks, e, hS, hH, l, n⟩ := h; exact ⟨q, ob, ks, e, hS, by rw [upd_ne (ne q rfl e)]; exact hH, l, n⟩
theorem same_updM (e : Same S H) {p : Addr} {u : HO} (h : S p = none) : Same S (upd H p u) := fun b x q => by rw [upd_ne (ne_of_none q h)]; exact e b x q
theorem EnvOk.setNew {i : Nat} {p : Addr} {u : HO} {s : Sl} (E : EnvOk K C S H σ Γ) (hp : H p = none) (h : SlOk K C S (upd H p u) (some (.ref p)) s) :
    EnvOk K C S (upd H p u) (σ.set i (some (.ref p))) (Γ.set i s) := by
  have hS := same_free E.le hp
  have away : ∀ (j : Nat) (t : Sl), Γ[j]? = some t → t.mut = true → σ[j]? ≠ some (some (.ref p)) := fun j t e m z => by
    obtain ⟨o, e2, q⟩ := E.ok j t e
    obtain ⟨p', u', e3, _, e4, _⟩ := q.mutAt m
    rw [e2, e3] at z; cases z
    rw [hp] at e4; cases e4
  refine ⟨same_updM E.le hS, by simp [E.len], fun j t e => ?_, fun j k t t' q e1 e2 m1 m2 f1 f2 => ?_⟩
  · rw [List.getElem?_set] at e
    by_cases hij : i = j
    · subst hij
      by_cases hl : i < Γ.length
      · rw [if_pos rfl, if_pos hl] at e; cases e
        exact ⟨some (.ref p), by rw [List.getElem?_set, if_pos rfl, if_pos (by rw [E.len]; exact hl)], h⟩
      · rw [if_pos rfl, if_neg hl] at e; cases e
    · rw [if_neg hij] at e
      rw [List.getElem?_set, if_neg hij]
      obtain ⟨o, e2, q⟩ := E.ok j t e
      exact ⟨o, e2, q.updNe fun m z => away j t e m (by rw [e2, z])⟩
  · rw [List.getElem?_set] at e1 e2 f1 f2
    by_cases h1 : i = j
    · subst h1
      by_cases h2 : i = k
      · exact h2
      · rw [if_neg h2] at e2 f2
        by_cases hl : i < σ.length
        · rw [if_pos rfl, if_pos hl] at f1; cases f1
          exact absurd f2 (away k t' e2 m2)
        · rw [if_pos rfl, if_neg hl] at f1; cases f1
    · rw [if_neg h1] at e1 f1
      by_cases h2 : i = k
      · subst h2
        by_cases hl : i < σ.length
        · rw [if_pos rfl, if_pos hl] at f2; cases f2
          exact absurd f1 (away j t e1 m1)
        · rw [if_pos rfl, if_neg hl] at f2; cases f2
      · rw [if_neg h2] at e2 f2
        exact E.dis j k t t' q e1 e2 m1 m2 f1 f2
/-- a mutable object is written -/
theorem EnvOk.upd {i : Nat} {p : Addr} {u : HO} {s s' : Sl} (E : EnvOk K C S H σ Γ) (hi : Γ[i]? = some s) (m : s.mut = true) (ho : σ[i]? = some (some (.ref p))) (h : SlOk K C S (L2.upd H p u) (some (.ref p)) s') :
    EnvOk K C S (L2.upd H p u) σ (Γ.set i s') := by
  have hS : S p = none := by
    obtain ⟨o, e2, q⟩ := E.ok i s hi
    obtain ⟨p', u', e3, e4, _⟩ := q.mutAt m
    rw [e2, e3] at ho; cases ho; exact e4
  have hl : i < Γ.length := (List.getElem?_eq_some_iff.mp hi).1
  refine ⟨same_updM E.le hS, by simp [E.len], fun j t e => ?_, fun j k t t' q e1 e2 m1 m2 f1 f2 => ?_⟩
  · rw [List.getElem?_set] at e
    by_cases hij : i = j
    · subst hij
      rw [if_pos rfl, if_pos hl] at e; cases e
      exact ⟨_, ho, h⟩
    · rw [if_neg hij] at e
      obtain ⟨o, e2, q⟩ := E.ok j t e
      exact ⟨o, e2, q.updNe fun m' z => hij (E.dis i j s t p hi e m m' ho (by rw [e2, z]))⟩
  · rw [List.getElem?_set] at e1 e2
    by_cases h1 : i = j
    · subst h1
      by_cases h2 : i = k
      · exact h2
      · rw [if_neg h2] at e2
        rw [ho] at f1; cases f1
        exact E.dis i k s t' p hi e2 m m2 ho f2
    · rw [if_neg h1] at e1
      by_cases h2 : i = k
      · subst h2
        rw [ho] at f2; cases f2
        exact E.dis j i t s p e1 hi m1 m f1 ho
      · rw [if_neg h2] at e2
        exact E.dis j k t t' q e1 e2 m1 m2 f1 f2
/-- a slot forgotten, or a mutable seen as steady -/
theorem EnvOk.weak (E : EnvOk K C S H σ Γ) (hl : Γ'.length = Γ.length) (h : ∀ (j : Nat) (s : Sl), Γ'[j]? = some s → Γ[j]? = some s ∨ (s.mut = false ∧ ∀ o, σ[j]? = some o → SlOk K C S H o s)) : EnvOk K C S H σ Γ' := by
  refine ⟨E.le, by rw [E.len, hl], fun j s e => ?_, fun j k s t p e1 e2 m1 m2 f1 f2 => ?_⟩
  · rcases h j s e with q | ⟨_, q⟩
    · exact E.ok j s q
    · have hj : j < σ.length := by rw [E.len, ← hl]; exact (List.getElem?_eq_some_iff.mp e).1
      exact ⟨σ[j], List.getElem?_eq_getElem hj, q _ (List.getElem?_eq_getElem hj)⟩
  · rcases h j s e1 with q | ⟨q, _⟩
    · rcases h k t e2 with q' | ⟨q', _⟩
      · exact E.dis j k s t p q q' m1 m2 f1 f2
      · rw [q'] at m2; cases m2
    · rw [q] at m1; cases m1
/-- the steady heap takes in the mutable object at p (for a while, or for good) -/
theorem Same.add (e : Same S H) {p : Addr} {u : HO} (h : H p = some u) : Same (upd S p u) H := fun b x q => by
  by_cases hb : b = p
  · subst hb; rw [upd_same] at q; cases q; exact h
  · rw [upd_ne hb] at q; exact e b x q
theorem same_add {p : Addr} {u : HO} (h : S p = none) : Same S (upd S p u) := same_upd h
theorem SlOk.add {o : Option V} {s : Sl} {p : Addr} {u : HO} (h : SlOk K C S H o s) (hS : S p = none) (hp : s.mut = true → o ≠ some (.ref p)) : SlOk K C (L2.upd S p u) H o s := by
  have ne : ∀ q, s.mut = true → o = some (.ref q) → q ≠ p := fun q m e z => hp m (by rw [e, z])
  cases s with
  | no => trivial
  | val d => obtain ⟨v, e, i⟩ := h; exact ⟨v, e, i.mono (same_add hS)⟩
  | ml ds => obtain ⟨q, vs, e, h1, hH, l, n⟩ := h; exact ⟨q, vs, e, by rw [upd_ne (ne q rfl e)]; exact h1, hH, l.mono (same_add hS), n⟩
  | md kvs => obtain ⟨q, ks, e, h1, hH, l, n⟩ := h; exact ⟨q, ks, e, by rw [upd_ne (ne q rfl e)]; exact h1, hH, l.mono (same_add hS), n⟩
  | fd kvs => obtain ⟨q, ob, ks, e, h1, hH, l, n⟩ := h; exact ⟨q, ob, ks, e, by rw [upd_ne (ne q rfl e)]; exact h1, hH, l.mono (same_add hS), n⟩
theorem EnvOk.freeze {i : Nat} {p : Addr} {u : HO} {s : Sl} {d : D} (E : EnvOk K C S H σ Γ) (hi : Γ[i]? = some s) (m : s.mut = true) (ho : σ[i]? = some (some (.ref p))) (hu : H p = some u) (h : Is K C (L2.upd S p u) (.ref p) d) :
    EnvOk K C (L2.upd S p u) H σ (Γ.set i (.val d)) := by
  have hS : S p = none := by
    obtain ⟨o, e2, q⟩ := E.ok i s hi
    obtain ⟨p', u', e3, e4, _⟩ := q.mutAt m
    rw [e2, e3] at ho; cases ho; exact e4
  have hl : i < Γ.length := (List.getElem?_eq_some_iff.mp hi).1
  refine ⟨Same.add E.le hu, by simp [E.len], fun j t e => ?_, fun j k t t' q e1 e2 m1 m2 f1 f2 => ?_⟩
  · rw [List.getElem?_set] at e
    by_cases hij : i = j
    · subst hij
      rw [if_pos rfl, if_pos hl] at e; cases e
      exact ⟨_, ho, _, rfl, h⟩
    · rw [if_neg hij] at e
      obtain ⟨o, e2, q⟩ := E.ok j t e
      exact ⟨o, e2, q.add hS fun m' z => hij (E.dis i j s t p hi e m m' ho (by rw [e2, z]))⟩
  · rw [List.getElem?_set] at e1 e2
    by_cases h1 : i = j
    · subst h1; rw [if_pos rfl, if_pos hl] at e1; cases e1; cases m1
    · rw [if_neg h1] at e1
      by_cases h2 : i = k
      · subst h2; rw [if_pos rfl, if_pos hl] at e2; cases e2; cases m2
      · rw [if_neg h2] at e2
        exact E.dis j k t t' q e1 e2 m1 m2 f1 f2

/-! ### statements -/
/-- within a def entered at (S0, H0) -/
structure Env (K : PySem.W.Frag) (C : Addr) (S0 H0 S H : Hp) (σ : L2.St) (Γ : List Sl) : Prop where
  g : Grow S0 H0 S H
  e : EnvOk K C S H σ Γ
  m : ∀ (i : Nat) (s : Sl) (p : Addr), Γ[i]? = some s → s.mut = true → σ[i]? = some (some (.ref p)) → H0 p = none
structure AE where
  nx : List Sl → Prop := fun _ => False
  rt : D → Prop := fun _ => False
  bk : List Sl → Prop := fun _ => False
  ct : List Sl → Prop := fun _ => False
structure EndsOk (K : PySem.W.Frag) (C : Addr) (S0 H0 Sb : Hp) (E : AE) (Dd : Ends) : Prop where
  nx : ∀ Γ σ S H, Env K C S0 H0 S H σ Γ → Same Sb S → E.nx Γ → Dd.nx σ H
  rt : ∀ d v S H, Grow S0 H0 S H → Is K C S v d → E.rt d → Dd.rt v H
  bk : ∀ Γ σ S H, Env K C S0 H0 S H σ Γ → Same Sb S → E.bk Γ → Dd.bk σ H
  ct : ∀ Γ σ S H, Env K C S0 H0 S H σ Γ → Same Sb S → E.ct Γ → Dd.ct σ H
theorem EndsOk.mono {Sb Sc : Hp} {E : AE} {Dd : Ends} (k : EndsOk K C S0 H0 Sb E Dd) (h : Same Sb Sc) : EndsOk K C S0 H0 Sc E Dd :=
  ⟨fun Γ σ S H e s => k.nx Γ σ S H e (h.trans s), k.rt, fun Γ σ S H e s => k.bk Γ σ S H e (h.trans s), fun Γ σ S H e s => k.ct Γ σ S H e (h.trans s)⟩
def SvE (K : PySem.W.Frag) (C : Addr) (S0 H0 : Hp) (t : TS) (Γ : List Sl) (E : AE) : Prop := ∀ (Dd : Ends) (σ : L2.St) (S H : Hp), Env K C S0 H0 S H σ Γ → EndsOk K C S0 H0 S E Dd → t Dd σ H
theorem Env.grow {S1 H1 : Hp} (E : Env K C S0 H0 S H σ Γ) (g : Grow S H S1 H1) : Env K C S0 H0 S1 H1 σ Γ := ⟨E.g.trans g, E.e.grow g, E.m⟩
theorem Env.set {i : Nat} {v : V} {d : D} (E : Env K C S0 H0 S H σ Γ) (h : Is K C S v d) : Env K C S0 H0 S H (σ.set i (some v)) (Γ.set i (.val d)) := by
  refine ⟨E.g, E.e.set h, fun j s p e m f => ?_⟩
  rw [List.getElem?_set] at e f
  by_cases hij : i = j
  · subst hij
    by_cases hl : i < Γ.length
    · rw [if_pos rfl, if_pos hl] at e; cases e; cases m
    · rw [if_pos rfl, if_neg hl] at e; cases e
  · rw [if_neg hij] at e f
    exact E.m j s p e m f
theorem Env.setNew {i : Nat} {p : Addr} {u : HO} {s : Sl} (E : Env K C S0 H0 S H σ Γ) (hp : H p = none) (h : SlOk K C S (upd H p u) (some (.ref p)) s) :
    Env K C S0 H0 S (upd H p u) (σ.set i (some (.ref p))) (Γ.set i s) := by
  refine ⟨E.g.trans (Grow.newM E.e.le hp), E.e.setNew hp h, fun j t q e m f => ?_⟩
  rw [List.getElem?_set] at e f
  by_cases hij : i = j
  · subst hij
    by_cases hl : i < σ.length
    · rw [if_pos rfl, if_pos hl] at f; cases f
      exact same_free E.g.hh hp
    · rw [if_pos rfl, if_neg hl] at f; cases f
  · rw [if_neg hij] at e f
    exact E.m j t q e m f
theorem Env.upd {i : Nat} {p : Addr} {u : HO} {s s' : Sl} (E : Env K C S0 H0 S H σ Γ) (hi : Γ[i]? = some s) (m : s.mut = true) (ho : σ[i]? = some (some (.ref p))) (h : SlOk K C S (L2.upd H p u) (some (.ref p)) s') :
    Env K C S0 H0 S (L2.upd H p u) σ (Γ.set i s') := by
  have h0 := E.m i s p hi m ho
  have EE := E.e.upd hi m ho h
  refine ⟨⟨E.g.hs, EE.le, same_updM E.g.hh h0, E.g.fr⟩, EE, fun j t q e m' f => ?_⟩
  rw [List.getElem?_set] at e
  by_cases hij : i = j
  · subst hij; rw [ho] at f; cases f; exact h0
  · rw [if_neg hij] at e; exact E.m j t q e m' f
theorem Env.freeze {i : Nat} {p : Addr} {u : HO} {s : Sl} {d : D} (E : Env K C S0 H0 S H σ Γ) (hi : Γ[i]? = some s) (m : s.mut = true) (ho : σ[i]? = some (some (.ref p))) (hu : H p = some u) (h : Is K C (L2.upd S p u) (.ref p) d) :
    Env K C S0 H0 (L2.upd S p u) H σ (Γ.set i (.val d)) := by
  have h0 := E.m i s p hi m ho
  have EE := E.e.freeze hi m ho hu h
  have hS : S p = none := by
    obtain ⟨o, e2, q⟩ := E.e.ok i s hi
    obtain ⟨p', u', e3, e4, _⟩ := q.mutAt m
    rw [e2, e3] at ho; cases ho; exact e4
  refine ⟨⟨E.g.hs.trans (same_add hS), EE.le, E.g.hh, fun a o q q' => ?_⟩, EE, fun j t q e m' f => ?_⟩
  · by_cases ha : a = p
    · subst ha; exact .inl h0
    · rw [upd_ne ha] at q; exact E.g.fr a o q q'
  · rw [List.getElem?_set] at e
    by_cases hij : i = j
    · subst hij
      have hl : i < Γ.length := (List.getElem?_eq_some_iff.mp hi).1
      rw [if_pos rfl, if_pos hl] at e; cases e; cases m'
    · rw [if_neg hij] at e; exact E.m j t q e m' f

variable {ta tb te tc tl : TE} {d d1 d2 d3 : D} {ds : List D} {tA tB' : TT} {b b' : Bool} {t u : TS} {E : AE}
theorem sv_next (h : E.nx Γ) : SvE K C S0 H0 tNext Γ E := fun Dd σ S H e k => k.nx Γ σ S H e (Same.refl S) h
theorem sv_break (h : E.bk Γ) : SvE K C S0 H0 tBreak Γ E := fun Dd σ S H e k => k.bk Γ σ S H e (Same.refl S) h
theorem sv_cont (h : E.ct Γ) : SvE K C S0 H0 tCont Γ E := fun Dd σ S H e k => k.ct Γ σ S H e (Same.refl S) h
theorem sv_seq (h : SvE K C S0 H0 t Γ { E with nx := fun Γ' => SvE K C S0 H0 u Γ' E }) : SvE K C S0 H0 (tSeq t u) Γ E := fun Dd σ S H e k =>
  h { Dd with nx := u Dd } σ S H e ⟨fun Γ' σ' S' H' e' s q => q Dd σ' S' H' e' (k.mono s), k.rt, k.bk, k.ct⟩
theorem sv_mono {E' : AE} (h : SvE K C S0 H0 t Γ E') (h1 : ∀ Γ, E'.nx Γ → E.nx Γ) (h2 : ∀ d, E'.rt d → E.rt d) (h3 : ∀ Γ, E'.bk Γ → E.bk Γ) (h4 : ∀ Γ, E'.ct Γ → E.ct Γ) : SvE K C S0 H0 t Γ E := fun Dd σ S H e k =>
  h Dd σ S H e ⟨fun Γ σ S H e s q => k.nx Γ σ S H e s (h1 Γ q), fun d v S H g i q => k.rt d v S H g i (h2 d q), fun Γ σ S H e s q => k.bk Γ σ S H e s (h3 Γ q), fun Γ σ S H e s q => k.ct Γ σ S H e s (h4 Γ q)⟩
theorem sv_asg {i : Nat} (h : EvE K C te Γ d) (k : E.nx (Γ.set i (.val d))) : SvE K C S0 H0 (tAsg te (gName i)) Γ E := fun Dd σ S H e kk =>
  h σ S H e.e _ fun v S1 H1 g i1 => kk.nx _ _ S1 H1 ((e.grow g).set i1) g.hs k
theorem sv_ret (h : EvE K C te Γ d) (k : E.rt d) : SvE K C S0 H0 (tRet te) Γ E := fun Dd σ S H e kk =>
  h σ S H e.e _ fun v S1 H1 g i1 => kk.rt d v S1 H1 (e.g.trans g) i1 k
theorem sv_retN (k : E.rt .non) : SvE K C S0 H0 tRetN Γ E := fun Dd σ S H e kk => kk.rt .non _ S H e.g .non k
theorem sv_drop (h : EvE K C te Γ d) (k : E.nx Γ) : SvE K C S0 H0 (tDrop te) Γ E := fun Dd σ S H e kk =>
  h σ S H e.e _ fun v S1 H1 g i1 => kk.nx _ _ S1 H1 (e.grow g) g.hs k
theorem sv_if (h : EvT K C tA Γ b) (h1 : b = true → SvE K C S0 H0 t Γ E) (h2 : b = false → SvE K C S0 H0 u Γ E) : SvE K C S0 H0 (tIfS tA t u) Γ E := fun Dd σ S H e kk =>
  h σ S H e.e _ fun S1 H1 g => by
    cases b with
    | true => exact h1 rfl Dd σ S1 H1 (e.grow g) (kk.mono g.hs)
    | false => exact h2 rfl Dd σ S1 H1 (e.grow g) (kk.mono g.hs)
theorem sv_never {Dd : Prop} (h : False) : SvE K C S0 H0 tNever Γ E := h.elim
/-- a new empty dict, list -/
theorem sv_dnew {i : Nat} (k : E.nx (Γ.set i (.md []))) : SvE K C S0 H0 (tAsg tDNewT (gName i)) Γ E := fun Dd σ S H e kk => fun p hp =>
  kk.nx _ _ S _ (e.setNew hp (slmd (same_free e.e.le hp) upd_same .nil (Nat.zero_le _))) (Same.refl S) k
theorem sv_lnew {i : Nat} {t : TA} (h : EvA K C t Γ ds) (hn : ds.length ≤ 1000) (k : E.nx (Γ.set i (.ml ds))) : SvE K C S0 H0 (tAsg (tLst t) (gName i)) Γ E := fun Dd σ S H e kk =>
  h σ S H e.e _ fun vs S1 H1 g i1 => ⟨by rw [i1.length]; exact Nat.le_trans hn (by decide), fun p hp => kk.nx _ _ S1 _ ((e.grow g).setNew hp (slml (same_free g.le hp) upd_same i1 hn)) g.hs k⟩
/-- what was a mutable is steady from here on -/
theorem sv_freezeL {i : Nat} (hi : Γ[i]? = some (.ml ds)) (h : SvE K C S0 H0 t (Γ.set i (.val (.lst ds))) E) : SvE K C S0 H0 t Γ E := fun Dd σ S H e kk => by
  obtain ⟨o, e1, p, vs, rfl, hS, hH, l, n⟩ := e.e.ok i _ hi
  exact h Dd σ _ H (e.freeze hi rfl e1 hH (.lst upd_same (l.mono (same_add hS)) n)) (kk.mono (same_add hS))
/-- for an expression alone -/
def D.flat : D → Bool
  | .int _ => true
  | .bl _ => true
  | .str _ => true
  | .non => true
  | _ => false
theorem ev_freezeL {i : Nat} (hi : Γ[i]? = some (.ml ds)) (h : EvE K C te (Γ.set i (.val (.lst ds))) d) (hd : (∃ z, d = .int z) ∨ ∃ r, d = room r) : EvE K C te Γ d := fun σ S H e Q q => by
  obtain ⟨o, e1, p, vs, rfl, hS, hH, l, n⟩ := e.ok i _ hi
  refine h σ _ H (e.freeze hi rfl e1 hH (.lst upd_same (l.mono (same_add hS)) n)) Q fun v S1 H1 g i1 => ?_
  rcases hd with ⟨z, rfl⟩ | ⟨r, rfl⟩
  · rw [i1.int_inv]
    exact q _ S H1 ⟨Same.refl S, fun a x z => g.le a x (g.hs a x (same_add hS a x z)), g.hh, fun a x z z' => by rw [z] at z'; cases z'⟩ (.int _)
  · obtain ⟨pt, rfl, h1, h2⟩ := i1.room_inv
    have le : Same S H1 := fun a x z => g.le a x (g.hs a x (same_add hS a x z))
    obtain ⟨S2, g2, h3⟩ := Grow.addT le (g.le _ _ h1)
    exact q _ S2 H1 ⟨g2.hs, g2.le, g.hh, fun a x z z' => by
      by_cases ha : S1 a = none
      · rcases g2.fr a x z z' with w | w
        · rw [g2.le a x z] at w; cases w
        · exact .inr w
      · rcases g2.fr a x z z' with w | w
        · rw [g2.le a x z] at w; cases w
        · exact .inr w⟩ (is_room h3 h2)
/-- list.append -/
theorem sv_append {i : Nat} (hi : Γ[i]? = some (.ml ds)) (h : EvE K C te Γ d) (hn : ds.length < 1000) (k : E.nx (Γ.set i (.ml (ds ++ [d])))) :
    SvE K C S0 H0 (tDrop (tBM K "list" rAppend (tVar i) (tCons te tNil))) Γ E := fun Dd σ S H e kk => by
  obtain ⟨o, e1, p, vs, rfl, hS, hH, l, n⟩ := e.e.ok i _ hi
  refine ⟨.ref p, e1, .inl ⟨rfl, vs, .of hH⟩, h σ S H e.e _ fun v S1 H1 g i1 => ?_⟩
  have e' := e.grow g
  obtain ⟨o, e2, p', vs', z, hS', hH', l', n'⟩ := e'.e.ok i _ hi
  rw [e1] at e2; cases e2; cases z
  refine ⟨p, vs', v, rfl, rfl, hH', by rw [l'.length]; exact Nat.lt_of_lt_of_le hn (by decide), ?_⟩
  exact kk.nx _ _ S1 _ (e'.upd hi rfl e1 (slml hS' upd_same (l'.append (.cons i1 .nil)) (by rw [List.length_append]; exact hn))) g.hs k
/-- xs[j] = e -/
theorem sv_setL {i : Nat} {j : Nat} {jz : Int} (hi : Γ[i]? = some (.ml ds)) (h : EvE K C te Γ d) (hj : EvE K C tb Γ (.int jz)) (hz : jz = (j : Int)) (hl : j < ds.length) (k : E.nx (Γ.set i (.ml (ds.set j d)))) :
    SvE K C S0 H0 (tAsg te (gSub (tVar i) tb rSetL)) Γ E := fun Dd σ S H e kk =>
  h σ S H e.e _ fun v S1 H1 g i1 => by
    have e' := e.grow g
    obtain ⟨o, e1, p, vs, rfl, hS, hH, l, n⟩ := e'.e.ok i _ hi
    refine ⟨.ref p, e1, hj σ S1 H1 e'.e _ fun w S2 H2 g2 i2 => ?_⟩
    have e'' := e'.grow g2
    obtain ⟨o, e2, p', vs', z, hS', hH', l', n'⟩ := e''.e.ok i _ hi
    rw [e1] at e2; cases e2; cases z
    refine ⟨p, vs', jz, j, rfl, i2.int_inv, hH', ?_, ?_⟩
    · unfold ixN
      rw [l'.length, hz, if_pos (by omega), if_pos (by omega), Int.toNat_natCast]
    · exact kk.nx _ _ S2 _ (e''.upd hi rfl e1 (slml hS' upd_same (l'.set j (i1.mono g2.hs)) (by simpa using n'))) (g.hs.trans g2.hs) k
/-- name op= e, ints -/
theorem sv_augI {i : Nat} {f : Int → Int → Int} {a c : Int} (hi : Γ[i]? = some (.val (.int a))) (h : EvE K C te Γ (.int c)) (k : E.nx (Γ.set i (.val (.int (f a c))))) : SvE K C S0 H0 (tAug i te (ipI f)) Γ E := fun Dd σ S H e kk => by
  obtain ⟨o, e1, v, rfl, iv⟩ := e.e.ok i _ hi
  refine ⟨v, e1, h σ S H e.e _ fun w S1 H1 g i1 => ⟨a, c, iv.int_inv, i1.int_inv, ?_⟩⟩
  exact kk.nx _ _ S1 H1 ((e.grow g).set (.int _)) g.hs k
theorem sv_augR {i : Nat} {c0 : Int → Int → Prop} {f : Int → Int → Int} {a c : Int} (hi : Γ[i]? = some (.val (.int a))) (h : EvE K C te Γ (.int c)) (hc : c0 a c) (k : E.nx (Γ.set i (.val (.int (f a c))))) : SvE K C S0 H0 (tAug i te (rI c0 fun i j => .int (f i j))) Γ E := fun Dd σ S H e kk => by
  obtain ⟨o, e1, v, rfl, iv⟩ := e.e.ok i _ hi
  refine ⟨v, e1, h σ S H e.e _ fun w S1 H1 g i1 => ⟨a, c, iv.int_inv, i1.int_inv, hc, ?_⟩⟩
  exact kk.nx _ _ S1 H1 ((e.grow g).set (.int _)) g.hs k

end
end NA

set_option Elab.async false
set_option linter.all false
set_option maxRecDepth 100000
set_option maxHeartbeats 4000000
set_option autoImplicit false
namespace NA
open PySem PySem.Spec PyProof.Rows L2

/-! ### dicts -/
def kvGet (kvs : List (List Int × D)) (r : List Int) : Option D := (kvs.find? fun kv => decide (kv.1 = r)).map (·.2)
def kvPut (kvs : List (List Int × D)) (r : List Int) (d : D) : List (List Int × D) := if (kvs.any fun kv => decide (kv.1 = r)) then kvs.map fun kv => if kv.1 = r then (kv.1, d) else kv else kvs ++ [(r, d)]
theorem inl_inj {r q : List Int} : (r.map Sum.inl : List L2.Key) = q.map Sum.inl ↔ r = q :=
  ⟨fun h => (List.map_inj_right (f := (Sum.inl : Int → L2.Key)) fun a b e => Sum.inl.inj e).mp h, fun h => by rw [h]⟩
theorem kV_inl (r : List Int) : (r.map Sum.inl : List L2.Key).map kV = r.map V.int := by
  rw [List.map_map]; rfl
section
variable {K : PySem.W.Frag} {C : Addr} {S S' H H' S0 H0 : Hp} {σ : L2.St} {Γ Γ' : List Sl}
theorem KvOk.get : ∀ {ks : List (List L2.Key × V)} {kvs : List (List Int × D)} (r : List Int), KvOk K C S ks kvs →
    (kvGet kvs r = none ∧ valV ks (r.map Sum.inl) = none) ∨ ∃ d v, kvGet kvs r = some d ∧ valV ks (r.map Sum.inl) = some v ∧ Is K C S v d
  | _, _, _, .nil => .inl ⟨rfl, rfl⟩
  | _, _, r, .cons (r := q) (v := v) (d := d) (ks := ks) (kvs := kvs) i t => by
    unfold kvGet valV
    by_cases h : q = r
    · rw [List.find?_cons_of_pos (by simp [h]), List.find?_cons_of_pos (by simp [h])]
      exact .inr ⟨d, v, rfl, rfl, i⟩
    · rw [List.find?_cons_of_neg (by simp [h]), List.find?_cons_of_neg (by simpa [inl_inj] using h)]
      exact KvOk.get r t
theorem KvOk.anyEq : ∀ {ks : List (List L2.Key × V)} {kvs : List (List Int × D)} (r : List Int), KvOk K C S ks kvs →
    (ks.any fun kv => decide (kv.1 = r.map Sum.inl)) = (kvs.any fun kv => decide (kv.1 = r))
  | _, _, _, .nil => rfl
  | _, _, r, .cons (r := q) i t => by
    rw [List.any_cons, List.any_cons, KvOk.anyEq r t]
    congr 1
    by_cases h : q = r
    · simp [h]
    · rw [decide_eq_false h, decide_eq_false (fun z => h (inl_inj.mp z))]
theorem KvOk.mapPut {v : V} {d : D} (i : Is K C S v d) (r : List Int) : ∀ {ks : List (List L2.Key × V)} {kvs : List (List Int × D)}, KvOk K C S ks kvs →
    KvOk K C S (ks.map fun kv => if kv.1 = r.map Sum.inl then (kv.1, v) else kv) (kvs.map fun kv => if kv.1 = r then (kv.1, d) else kv)
  | _, _, .nil => .nil
  | _, _, .cons (r := q) j t => by
    rw [List.map_cons, List.map_cons]
    by_cases h : q = r
    · rw [if_pos (inl_inj.mpr h), if_pos h]
      exact .cons i (KvOk.mapPut i r t)
    · rw [if_neg (fun z => h (inl_inj.mp z)), if_neg h]
      exact .cons j (KvOk.mapPut i r t)
theorem KvOk.append : ∀ {ks ks' : List (List L2.Key × V)} {kvs kvs' : List (List Int × D)}, KvOk K C S ks kvs → KvOk K C S ks' kvs' → KvOk K C S (ks ++ ks') (kvs ++ kvs')
  | _, _, _, _, .nil, h => h
  | _, _, _, _, .cons i t, h => .cons i (KvOk.append t h)
theorem KvOk.put {v : V} {d : D} (i : Is K C S v d) (r : List Int) {ks : List (List L2.Key × V)} {kvs : List (List Int × D)} (h : KvOk K C S ks kvs) : KvOk K C S (putK ks (r.map Sum.inl) v) (kvPut kvs r d) := by
  unfold putK kvPut
  rw [h.anyEq r]
  by_cases e : (kvs.any fun kv => decide (kv.1 = r)) = true
  · rw [if_pos e, if_pos e]; exact h.mapPut i r
  · rw [if_neg e, if_neg e]; exact h.append (.cons i .nil)
theorem kvPut_length (kvs : List (List Int × D)) (r : List Int) (d : D) : (kvPut kvs r d).length ≤ kvs.length + 1 := by
  unfold kvPut
  split
  · simp
  · simp
theorem KvOk.keyAt : ∀ {ks : List (List L2.Key × V)} {kvs : List (List Int × D)} {i : Nat} {k : List L2.Key} {v : V}, KvOk K C S ks kvs → ks[i]? = some (k, v) → ∃ r d, kvs[i]? = some (r, d) ∧ k = r.map Sum.inl
  | _, _, _, _, _, .nil, e => by simp at e
  | _, _, 0, _, _, .cons _ _, e => by simp at e; obtain ⟨rfl, rfl⟩ := e; exact ⟨_, _, rfl, rfl⟩
  | _, _, i + 1, _, _, .cons _ t, e => by
    obtain ⟨r, d, h1, h2⟩ := KvOk.keyAt (i := i) t (by simpa using e)
    exact ⟨r, d, by simpa using h1, h2⟩
/-- a slot that holds a dict (also a locked, also a steady one) -/
inductive DSl : Sl → List (List Int × D) → Prop
  | md {kvs : List (List Int × D)} : DSl (.md kvs) kvs
  | fd {kvs : List (List Int × D)} : DSl (.fd kvs) kvs
  | dct {kvs : List (List Int × Int)} : DSl (.val (.dct kvs)) (kvs.map fun kv => (kv.1, .int kv.2))
theorem kvOk_dct : ∀ (kvs : List (List Int × Int)), KvOk K C S (dctK kvs) (kvs.map fun kv => (kv.1, D.int kv.2))
  | [] => .nil
  | kv :: r => .cons (.int _) (kvOk_dct r)
theorem DSl.at {s : Sl} {kvs : List (List Int × D)} {i : Nat} (h : DSl s kvs) (hi : Γ[i]? = some s) (E : EnvOk K C S H σ Γ) : ∃ p ks, σ[i]? = some (some (.ref p)) ∧ Rd H p (.dT ks) ∧ KvOk K C S ks kvs ∧ ((∃ u, H p = some u ∧ ∀ xs, u ≠ .tup xs) ) := by
  obtain ⟨o, e, q⟩ := E.ok i s hi
  cases h with
  | md => obtain ⟨p, ks, rfl, h1, h2, h3, h4⟩ := q; exact ⟨p, ks, e, .inl h2, h3, _, h2, fun xs z => nomatch z⟩
  | fd => obtain ⟨p, ob, ks, rfl, h1, h2, h3, h4⟩ := q; exact ⟨p, ks, e, .inr ⟨ob, h2⟩, h3, _, h2, fun xs z => nomatch z⟩
  | dct =>
    obtain ⟨v, rfl, iv⟩ := q
    cases iv with
    | dct h n => exact ⟨_, _, e, .inl (E.le _ _ h), kvOk_dct _, _, E.le _ _ h, fun xs z => nomatch z⟩
theorem DGet.rd {H : Hp} {a b : Addr} {kvs : List (List L2.Key × V)} {k : List L2.Key} (e : Rd H a (.dT kvs)) (eb : H b = some (.tup (k.map kV))) : DGet H a (.ref b) (valV kvs k) := .inr ⟨kvs, k, b, e, rfl, eb, rfl⟩
theorem dget_of {p : Addr} {ks : List (List L2.Key × V)} {v : V} {r : List Int} (hr : Rd H p (.dT ks)) (le : Same S H) (iv : Is K C S v (room r)) : DGet H p v (valV ks (r.map Sum.inl)) := by
  obtain ⟨b, rfl, hb, _⟩ := iv.room_inv
  refine DGet.rd hr ?_
  rw [kV_inl]; exact le _ _ hb
variable {ta tb te tc ty tl tx : TE} {d d1 d2 d3 : D} {ds : List D} {tA tB' : TT} {b b' : Bool} {t u : TS} {E : AE} {kvs : List (List Int × D)} {r : List Int} {s : Sl}
theorem et_din {i : Nat} (hi : Γ[i]? = some s) (hs : DSl s kvs) (h : EvE K C ty Γ (room r)) : EvE K C (tDIn ty (tVar i)) Γ (.bl (kvGet kvs r).isSome) := fun σ S H e Q q => by
  refine h σ S H e _ fun v S1 H1 g i1 => ?_
  obtain ⟨p, ks, e1, hr, hk, _⟩ := hs.at hi (e.grow g)
  refine ⟨.ref p, e1, p, _, rfl, dget_of hr g.le i1, ?_⟩
  rcases hk.get r with ⟨h1, h2⟩ | ⟨d, v, h1, h2, _⟩
  · rw [h1] at q; rw [h2]; exact q _ S1 H1 g (.bl _)
  · rw [h1] at q; rw [h2]; exact q _ S1 H1 g (.bl _)
theorem et_dnin {i : Nat} (hi : Γ[i]? = some s) (hs : DSl s kvs) (h : EvE K C ty Γ (room r)) : EvE K C (tDNotIn ty (tVar i)) Γ (.bl (!(kvGet kvs r).isSome)) := fun σ S H e Q q => by
  refine h σ S H e _ fun v S1 H1 g i1 => ?_
  obtain ⟨p, ks, e1, hr, hk, _⟩ := hs.at hi (e.grow g)
  refine ⟨.ref p, e1, p, _, rfl, dget_of hr g.le i1, ?_⟩
  rcases hk.get r with ⟨h1, h2⟩ | ⟨d, v, h1, h2, _⟩
  · rw [h1] at q; rw [h2]; exact q _ S1 H1 g (.bl _)
  · rw [h1] at q; rw [h2]; exact q _ S1 H1 g (.bl _)
theorem ev_dget {i : Nat} (hi : Γ[i]? = some s) (hs : DSl s kvs) (h : EvE K C ty Γ (room r)) (hv : kvGet kvs r = some d) : EvE K C (tDGet (tVar i) ty) Γ d := fun σ S H e Q q => by
  obtain ⟨p, ks, e1, _⟩ := hs.at hi e
  refine ⟨.ref p, e1, h σ S H e _ fun v S1 H1 g i1 => ?_⟩
  obtain ⟨p', ks', e2, hr, hk, _⟩ := hs.at hi (e.grow g)
  rw [e1] at e2; cases e2
  rcases hk.get r with ⟨h1, h2⟩ | ⟨d', v', h1, h2, iv⟩
  · rw [hv] at h1; cases h1
  · rw [hv] at h1; cases h1
    exact ⟨p, v', rfl, by rw [← h2]; exact dget_of hr g.le i1, q _ S1 H1 g iv⟩
theorem ev_dget2 {i : Nat} (hi : Γ[i]? = some s) (hs : DSl s kvs) (h : EvE K C ty Γ (room r)) (hx : EvE K C tx Γ d) : EvE K C (tDGet2 (tVar i) ty tx) Γ ((kvGet kvs r).getD d) := fun σ S H e Q q => by
  obtain ⟨p, ks, e1, hr0, _⟩ := hs.at hi e
  refine ⟨.ref p, e1, p, rfl, .inr ⟨_, hr0⟩, h σ S H e _ fun v S1 H1 g i1 => ?_⟩
  refine hx σ S1 H1 (e.grow g) _ fun w S2 H2 g2 i2 => ?_
  obtain ⟨p', ks', e2, hr, hk, _⟩ := hs.at hi ((e.grow g).grow g2)
  rw [e1] at e2; cases e2
  refine ⟨_, dget_of hr g2.le (i1.mono g2.hs), ?_⟩
  rcases hk.get r with ⟨h1, h2⟩ | ⟨d', v', h1, h2, iv⟩
  · rw [h1] at q; rw [h2]; exact q _ S2 H2 (g.trans g2) i2
  · rw [h1] at q; rw [h2]; exact q _ S2 H2 (g.trans g2) iv
theorem sv_dput {i : Nat} (hi : Γ[i]? = some (.md kvs)) (hv : EvE K C te Γ d) (h : EvE K C ty Γ (room r)) (hn : kvs.length < 1000) (k : E.nx (Γ.set i (.md (kvPut kvs r d)))) :
    SvE K C S0 H0 (sDPut (tVar i) ty te) Γ E := fun Dd σ S H e kk =>
  hv σ S H e.e _ fun v S1 H1 g i1 => by
    have e' := e.grow g
    obtain ⟨o, e1, p, ks, rfl, _⟩ := e'.e.ok i _ hi
    refine ⟨.ref p, e1, h σ S1 H1 e'.e _ fun w S2 H2 g2 i2 => ?_⟩
    have e'' := e'.grow g2
    obtain ⟨o, e2, p', ks', z, hS, hH, l, n⟩ := e''.e.ok i _ hi
    rw [e1] at e2; cases e2; cases z
    obtain ⟨b, rfl, hb, _⟩ := i2.room_inv
    have hb' : H2 b = some (.tup ((r.map Sum.inl : List L2.Key).map kV)) := by rw [kV_inl]; exact g2.le _ _ hb
    refine ⟨p, _, rfl, DPut.t (v := v) hH hb' (by rw [l.length]; exact Nat.lt_of_lt_of_le hn (by decide)), ?_⟩
    exact kk.nx _ _ S2 _ (e''.upd hi rfl e1 (slmd hS upd_same (l.put (i1.mono g2.hs) r) (Nat.le_trans (kvPut_length _ _ _) hn))) (g.hs.trans g2.hs) k
/-- counts[face] op= e -/
theorem ev_freezeD {i : Nat} {kz : List (List Int × Int)} {z : Int} (hi : Γ[i]? = some (.md (kz.map fun kv => (kv.1, D.int kv.2)))) (h : EvE K C te (Γ.set i (.val (.dct kz))) (.int z)) : EvE K C te Γ (.int z) := fun σ S H e Q q => by
  obtain ⟨o, e1, p, ks, rfl, hS, hH, l, n⟩ := e.ok i _ hi
  have ek : ks = dctK kz := by
    clear hi h e1 e hH n
    generalize hk : (kz.map fun kv => (kv.1, D.int kv.2)) = kvs at l
    induction l generalizing kz with
    | nil =>
      cases kz with
      | nil => rfl
      | cons a b => cases hk
    | cons i t ih =>
      cases kz with
      | nil => cases hk
      | cons a b =>
        obtain ⟨h1, h2⟩ := List.cons_eq_cons.mp hk
        cases h1
        rw [ih h2, i.int_inv]; rfl
  subst ek
  refine h σ _ H (e.freeze hi rfl e1 hH (.dct upd_same (by simpa using n))) Q fun v S1 H1 g i1 => ?_
  rw [i1.int_inv]
  exact q _ S H1 ⟨Same.refl S, fun a x z => g.le a x (g.hs a x (same_add hS a x z)), g.hh, fun a x z z' => by rw [z] at z'; cases z'⟩ (.int _)

/-! ### targets -/
/-- the datum goes into the slots `is` -/
def TgE (K : PySem.W.Frag) (C : Addr) (g : TG) (is : List Nat) (d : D) (Γ Γ' : List Sl) : Prop := ∀ σ S H v, EnvOk K C S H σ Γ → Is K C S v d → ∀ Q : L2.St → Hp → Prop,
  (∀ σ', EnvOk K C S H σ' Γ' → σ'.length = σ.length → (∀ k, k ∉ is → σ'[k]? = σ[k]?) → Q σ' H) → g v σ H Q
def TgL (K : PySem.W.Frag) (C : Addr) (g : TGs) (is : List Nat) (ds : List D) (Γ Γ' : List Sl) : Prop := ∀ σ S H vs, EnvOk K C S H σ Γ → IsL K C S vs ds → ∀ Q : L2.St → Hp → Prop,
  (∀ σ', EnvOk K C S H σ' Γ' → σ'.length = σ.length → (∀ k, k ∉ is → σ'[k]? = σ[k]?) → Q σ' H) → g vs σ H Q
structure GSet (is : List Nat) (Γ Γ' : List Sl) : Prop where
  out : ∀ k, k ∉ is → Γ'[k]? = Γ[k]?
  inn : ∀ (k : Nat) (s : Sl), k ∈ is → Γ'[k]? = some s → s.mut = false
theorem GSet.one (i : Nat) (d : D) : GSet [i] Γ (Γ.set i (.val d)) := ⟨fun k h => by rw [List.getElem?_set, if_neg (fun z => h (by simp [z]))], fun k s h e => by
  have : k = i := by simpa using h
  subst this
  rw [List.getElem?_set, if_pos rfl] at e
  split at e
  · cases e; rfl
  · cases e⟩
theorem tg_name {i : Nat} : TgE K C (gName i) [i] d Γ (Γ.set i (.val d)) := fun σ S H v E iv Q q =>
  q _ (E.set iv) (by simp) fun k h => by rw [List.getElem?_set, if_neg (fun z => h (by simp [z]))]
theorem tgl_nil : TgL K C gNil [] [] Γ Γ := fun σ S H vs E iv Q q => by
  cases iv
  exact ⟨rfl, q σ E rfl fun _ _ => rfl⟩
theorem tgl_cons {g : TG} {gs : TGs} {is js : List Nat} {Γ1 Γ2 : List Sl} (h : TgE K C g is d Γ Γ1) (hs : TgL K C gs js ds Γ1 Γ2) : TgL K C (gCons g gs) (is ++ js) (d :: ds) Γ Γ2 := fun σ S H vs E iv Q q => by
  cases iv with
  | cons a t =>
    refine ⟨_, _, rfl, h σ S H _ E a _ fun σ1 E1 l1 o1 => hs σ1 S H _ E1 t Q fun σ2 E2 l2 o2 => q σ2 E2 (l2.trans l1) fun k hk => ?_⟩
    rw [o2 k (fun z => hk (List.mem_append_right _ z)), o1 k (fun z => hk (List.mem_append_left _ z))]
theorem tg_tup {gs : TGs} {is : List Nat} {n : Nat} (h : TgL K C gs is ds Γ Γ') (hn : ds.length = n) : TgE K C (gTup K n gs) is (.tup ds) Γ Γ' := fun σ S H v E iv Q q => by
  obtain ⟨p, vs, rfl, hp, l, _⟩ := iv.tup_inv
  exact ⟨p, vs, rfl, .of (E.le _ _ hp), by rw [l.length, hn], h σ S H vs E l Q q⟩
theorem Env.tg {is : List Nat} {σ' : L2.St} (e : Env K C S0 H0 S H σ Γ) (gs : GSet is Γ Γ') (e' : EnvOk K C S H σ' Γ') (o : ∀ k, k ∉ is → σ'[k]? = σ[k]?) : Env K C S0 H0 S H σ' Γ' :=
  ⟨e.g, e', fun i s p h m f => by
    by_cases hi : i ∈ is
    · rw [gs.inn i s hi h] at m; cases m
    · rw [gs.out i hi] at h; rw [o i hi] at f; exact e.m i s p h m f⟩

/-! ### loops -/
/-- how a loop's item goes to its target -/
def Step (K : PySem.W.Frag) (C : Addr) (S0 H0 : Hp) (g : TG) (tb : TS) (d : D) (Γ : List Sl) (E : AE) : Prop := ∃ is Γ', GSet is Γ Γ' ∧ TgE K C g is d Γ Γ' ∧ SvE K C S0 H0 tb Γ' E
theorem step_name {i : Nat} (h : SvE K C S0 H0 t (Γ.set i (.val d)) E) : Step K C S0 H0 (gName i) t d Γ E := ⟨[i], _, GSet.one i d, tg_name, h⟩
theorem Step.run {Sb : Hp} {g : TG} {tb : TS} (h : Step K C S0 H0 g tb d Γ E) {v : V} (e : Env K C S0 H0 S H σ Γ) (iv : Is K C S v d) {Dd : Ends} (hb : Same Sb S) (k : EndsOk K C S0 H0 Sb E Dd) : g v σ H fun σ2 H2 => tb Dd σ2 H2 := by
  obtain ⟨is, Γ', gs, tg, sv⟩ := h
  exact tg σ S H v e.e iv _ fun σ' e' _ o => sv Dd σ' S H (e.tg gs e' o) (k.mono hb)
def Pin (K : PySem.W.Frag) (C : Addr) (S0 H0 S1 : Hp) (Inv : List Sl → Prop) (σ : L2.St) (H : Hp) : Prop := ∃ S Γ, Env K C S0 H0 S H σ Γ ∧ Same S1 S ∧ Inv Γ
theorem EndsOk.loop {Sb : Hp} {Dd : Ends} {I : List Sl → Prop} (k : EndsOk K C S0 H0 Sb E Dd) : EndsOk K C S0 H0 Sb { E with nx := I, ct := I, bk := E.nx } { Dd with nx := Pin K C S0 H0 Sb I, ct := Pin K C S0 H0 Sb I, bk := Dd.nx } :=
  ⟨fun Γ σ S H e s i => ⟨S, Γ, e, s, i⟩, k.rt, k.nx, fun Γ σ S H e s i => ⟨S, Γ, e, s, i⟩⟩
theorem sv_forL {g : TG} {tb : TS} (Inv : Nat → List Sl → Prop) (h : EvE K C tl Γ (.lst ds)) (h0 : Inv 0 Γ)
    (hs : ∀ (i : Nat) (d : D) (Γ1 : List Sl), ds[i]? = some d → Inv i Γ1 → Step K C S0 H0 g tb d Γ1 { E with nx := Inv (i + 1), ct := Inv (i + 1), bk := E.nx }) (hd : ∀ Γ1, Inv ds.length Γ1 → E.nx Γ1) :
    SvE K C S0 H0 (tFor (iList K tl) g tb) Γ E := fun Dd σ S H e kk =>
  h σ S H e.e _ fun v S1 H1 g1 i1 => by
    obtain ⟨p, vs, rfl, hp, l, n⟩ := i1.lst_inv
    have k1 := kk.mono g1.hs
    refine ⟨p, rfl, ⟨vs, .of (g1.le _ _ hp)⟩, for_list (xs := vs) (fun i σ H => Pin K C S0 H0 S1 (Inv i) σ H) ⟨S1, Γ, e.grow g1, Same.refl S1, h0⟩ (fun i σ H _ q => ?_) (fun i x σ H hx q => ?_) (fun σ H q => ?_)⟩
    · obtain ⟨S2, Γ2, e2, s2, _⟩ := q
      exact .of (e2.e.le _ _ (s2 _ _ hp))
    · obtain ⟨S2, Γ2, e2, s2, q⟩ := q
      obtain ⟨d, hd', iv⟩ := l.get hx
      exact (hs i d Γ2 hd' q).run e2 (iv.mono s2) s2 k1.loop
    · obtain ⟨S2, Γ2, e2, s2, q⟩ := q
      rw [l.length] at q
      exact k1.nx Γ2 σ S2 H e2 s2 (hd Γ2 q)
theorem sv_forT {g : TG} {tb : TS} (Inv : Nat → List Sl → Prop) (h : EvE K C tl Γ (.tup ds)) (h0 : Inv 0 Γ)
    (hs : ∀ (i : Nat) (d : D) (Γ1 : List Sl), ds[i]? = some d → Inv i Γ1 → Step K C S0 H0 g tb d Γ1 { E with nx := Inv (i + 1), ct := Inv (i + 1), bk := E.nx }) (hd : ∀ Γ1, Inv ds.length Γ1 → E.nx Γ1) :
    SvE K C S0 H0 (tFor (iTup K tl) g tb) Γ E := fun Dd σ S H e kk =>
  h σ S H e.e _ fun v S1 H1 g1 i1 => by
    obtain ⟨p, vs, rfl, hp, l, n⟩ := i1.tup_inv
    have k1 := kk.mono g1.hs
    refine ⟨p, rfl, ⟨vs, .of (g1.le _ _ hp)⟩, for_tup (xs := vs) (fun i σ H => Pin K C S0 H0 S1 (Inv i) σ H) ⟨S1, Γ, e.grow g1, Same.refl S1, h0⟩ (fun i σ H _ q => ?_) (fun i x σ H hx q => ?_) (fun σ H q => ?_)⟩
    · obtain ⟨S2, Γ2, e2, s2, _⟩ := q
      exact .of (e2.e.le _ _ (s2 _ _ hp))
    · obtain ⟨S2, Γ2, e2, s2, q⟩ := q
      obtain ⟨d, hd', iv⟩ := l.get hx
      exact (hs i d Γ2 hd' q).run e2 (iv.mono s2) s2 k1.loop
    · obtain ⟨S2, Γ2, e2, s2, q⟩ := q
      rw [l.length] at q
      exact k1.nx Γ2 σ S2 H e2 s2 (hd Γ2 q)
theorem sv_forR {g : TG} {tb : TS} {tr : TA} {n : Int} (Inv : Nat → List Sl → Prop) (h : EvA K C tr Γ [.int n]) (hn : -1000000 ≤ n ∧ n ≤ 1000000) (h0 : Inv 0 Γ)
    (hs : ∀ (i : Nat) (Γ1 : List Sl), (i : Int) < n → Inv i Γ1 → Step K C S0 H0 g tb (.int (i : Int)) Γ1 { E with nx := Inv (i + 1), ct := Inv (i + 1), bk := E.nx }) (hd : ∀ Γ1, Inv n.toNat Γ1 → E.nx Γ1) :
    SvE K C S0 H0 (tFor (iRng1 tr) g tb) Γ E := fun Dd σ S H e kk =>
  h σ S H e.e _ fun vs S1 H1 g1 i1 => by
    have ev : vs = [.int n] := by
      cases i1 with
      | cons a t => cases t; rw [a.int_inv]
    have k1 := kk.mono g1.hs
    refine ⟨n, ev, by omega, by omega, for_range (lo := 0) (n := n.toNat) (fun i σ H => Pin K C S0 H0 S1 (Inv i) σ H) ⟨S1, Γ, e.grow g1, Same.refl S1, h0⟩ (fun i σ H hi q => ?_) (fun σ H q => ?_)⟩
    · obtain ⟨S2, Γ2, e2, s2, q⟩ := q
      rw [Int.zero_add]
      exact (hs i Γ2 (by omega) q).run e2 (.int _) s2 k1.loop
    · obtain ⟨S2, Γ2, e2, s2, q⟩ := q
      exact k1.nx Γ2 σ S2 H e2 s2 (hd Γ2 q)
theorem sv_forE {g : TG} {tb : TS} {tr : TA} (Inv : Nat → List Sl → Prop) (h : EvA K C tr Γ [.lst ds]) (h0 : Inv 0 Γ)
    (hs : ∀ (i : Nat) (d : D) (Γ1 : List Sl), ds[i]? = some d → Inv i Γ1 → Step K C S0 H0 g tb (.tup [.int (i : Int), d]) Γ1 { E with nx := Inv (i + 1), ct := Inv (i + 1), bk := E.nx }) (hd : ∀ Γ1, Inv ds.length Γ1 → E.nx Γ1) :
    SvE K C S0 H0 (tFor (iEnum K tr) g tb) Γ E := fun Dd σ S H e kk =>
  h σ S H e.e _ fun us S1 H1 g1 i1 => by
    obtain ⟨p, vs, rfl, hp, l, n⟩ : ∃ p vs, us = [.ref p] ∧ S1 p = some (.lst vs) ∧ IsL K C S1 vs ds ∧ ds.length ≤ 1000 := by
      cases i1 with
      | cons a t => cases t; obtain ⟨p, vs, rfl, hp, l, n⟩ := a.lst_inv; exact ⟨p, vs, rfl, hp, l, n⟩
    have k1 := kk.mono g1.hs
    refine ⟨p, vs, rfl, .of (g1.le _ _ hp), fun i m σ H => m = vs.length - i ∧ i ≤ vs.length ∧ Pin K C S0 H0 S1 (Inv i) σ H, ⟨vs.length, by simp, Nat.zero_le _, S1, Γ, e.grow g1, Same.refl S1, h0⟩, ?_⟩
    rintro i m σ H ⟨rfl, hi, S2, Γ2, e2, s2, q⟩
    have hl : SqL K H p vs := .of (e2.e.le _ _ (s2 _ _ hp))
    by_cases hlt : i < vs.length
    · refine .inr ⟨⟨vs, vs[i], hl, by simp [hlt]⟩, Pin K C S0 H0 S1 (Inv (i + 1)), fun σ' H' p' => ⟨vs.length - (i + 1), by omega, rfl, hlt, p'⟩, fun x H' y => ?_⟩
      obtain ⟨T, y, rfl, nT, rfl, hy⟩ := y
      obtain ⟨d, hd', iv⟩ := l.get (hy vs hl)
      have gT : Grow S2 H (upd S2 T (.tup [.int (i : Nat), y])) (upd H T (.tup [.int (i : Nat), y])) := Grow.new e2.e.le nT
      exact (hs i d Γ2 hd' q).run (e2.grow gT) (.tup upd_same (.cons (.int _) (.cons ((iv.mono s2).mono gT.hs) .nil)) (by show 2 ≤ 1000; decide)) (s2.trans gT.hs) k1.loop
    · have ei : i = vs.length := by omega
      subst ei
      rw [l.length] at q
      exact .inl ⟨⟨vs, hl, Nat.le_refl _⟩, k1.nx Γ2 σ S2 H e2 s2 (hd Γ2 q)⟩
theorem sv_while {tb : TS} (Inv : Nat → List Sl → Prop) (m0 : Nat) (h0 : Inv m0 Γ)
    (hs : ∀ (m : Nat) (Γ1 : List Sl), Inv m Γ1 → ∃ b, EvT K C tA Γ1 b ∧ (b = true → SvE K C S0 H0 tb Γ1 { E with nx := fun Γ2 => ∃ m', m' < m ∧ Inv m' Γ2, ct := fun Γ2 => ∃ m', m' < m ∧ Inv m' Γ2, bk := E.nx }) ∧ (b = false → E.nx Γ1)) :
    SvE K C S0 H0 (tWhile tA tb) Γ E := fun Dd σ S H e kk => by
  refine ⟨fun m σ H => Pin K C S0 H0 S (Inv m) σ H, ⟨m0, S, Γ, e, Same.refl S, h0⟩, fun m σ' H' q => ?_⟩
  obtain ⟨S2, Γ2, e2, s2, q⟩ := q
  obtain ⟨b, ht, h1, h2⟩ := hs m Γ2 q
  refine ht σ' S2 H' e2.e _ fun S3 H3 g3 => ?_
  cases b with
  | true =>
    refine ⟨Pin K C S0 H0 S (fun Γ3 => ∃ m', m' < m ∧ Inv m' Γ3), fun σ4 H4 q4 => ?_, ?_⟩
    · obtain ⟨S4, Γ4, e4, s4, m', hm, q4⟩ := q4
      exact ⟨m', hm, S4, Γ4, e4, s4, q4⟩
    · exact h1 rfl _ σ' S3 H3 (e2.grow g3) ((EndsOk.loop kk).mono (s2.trans g3.hs))
  | false => exact kk.nx Γ2 σ' S3 H3 (e2.grow g3) (s2.trans g3.hs) (h2 rfl)
end
end NA

set_option Elab.async false
set_option linter.all false
set_option maxRecDepth 100000
set_option maxHeartbeats 4000000
set_option autoImplicit false
namespace NAX
open PySem PySem.Spec PyProof.Rows L2

/-! ### in, not in: a tuple of data -/
section
variable {X : Cx}
def rInDT (K : PySem.W.Frag) : R2 := fun x y H Q => ∃ d ds, Dp K H x d ∧ Dp K H y (.tuple ds) ∧ SeqAt.shaped d = true ∧ SeqAt.shaped (.tuple ds) = true ∧ Q (.bl (ds.any fun z => PyData.eqv z d)) H
def rNotInDT (K : PySem.W.Frag) : R2 := fun x y H Q => ∃ d ds, Dp K H x d ∧ Dp K H y (.tuple ds) ∧ SeqAt.shaped d = true ∧ SeqAt.shaped (.tuple ds) = true ∧ Q (.bl (!ds.any fun z => PyData.eqv z d)) H
theorem room_in_shapedT {A : Around} {d : PyData} {ds : List PyData} (sd : SeqAt.shaped d = true) (hu : A.units + 65 < cLine) : A.units + 1 + min (PyData.depthAll ds) d.depth < cLine := by
  have h1 := SeqAt.depth_of_shaped sd
  have h2 : min (PyData.depthAll ds) d.depth ≤ d.depth := Nat.min_le_right _ _
  omega
theorem op_inDT (hu : X.A.units + 65 < cLine) : OpR X (compareOp .In) (rInDT X.K) := by
  intro pins s σ H x y v u Q I rx ry h
  obtain ⟨d, ds, hd, he, sd, se, q⟩ := h
  obtain ⟨as, r1⟩ := Dp.reads I d x v hd rx
  obtain ⟨bs, r2⟩ := Dp.reads I (.tuple ds) y u he ry
  exact SeqAt.in_tuple_reads r2 r1 (SeqAt.canLay_of_shaped se) (SeqAt.canLay_of_shaped sd) (room_in_shapedT sd hu) ⟨.bl _, H, I, rfl, q⟩
theorem op_notInDT (hu : X.A.units + 65 < cLine) : OpR X (compareOp .NotIn) (rNotInDT X.K) := by
  intro pins s σ H x y v u Q I rx ry h
  obtain ⟨d, ds, hd, he, sd, se, q⟩ := h
  obtain ⟨as, r1⟩ := Dp.reads I d x v hd rx
  obtain ⟨bs, r2⟩ := Dp.reads I (.tuple ds) y u he ry
  exact SeqAt.notIn_tuple_reads r2 r1 (SeqAt.canLay_of_shaped se) (SeqAt.canLay_of_shaped sd) (room_in_shapedT sd hu) ⟨.bl _, H, I, rfl, q⟩

/-! ### t >= u, tuples of ints -/
def rGeT (K : PySem.W.Frag) : R2 := fun x y H Q => ∃ (a b : Addr) (ns ms : List Int), x = .ref a ∧ y = .ref b ∧ SqT K H a (ns.map V.int) ∧ SqT K H b (ms.map V.int) ∧
  Q (.bl (Ob.lexAt (fun j => decide (ns.getD j 0 = ms.getD j 0)) (fun j => decide (ms.getD j 0 ≤ ns.getD j 0)) (decide (ns.length ≥ ms.length)) 0 (min ns.length ms.length))) H
theorem op_geT (hu : X.A.units < cLine) : OpR X (compareOp .GtE) (rGeT X.K) := by
  intro pins s σ H x y v u Q I rx ry h
  obtain ⟨a, b, ns, ms, rfl, rfl, ha, hb, q⟩ := h
  cases rx
  cases ry
  obtain ⟨its, r1, p1, _⟩ := I.tuple ha
  obtain ⟨its2, r2, p2, _⟩ := I.tuple hb
  have i1 : IntsAre its ns := Vals.ints r1
  have i2 : IntsAre its2 ms := Vals.ints r2
  have e1 : its.toArray.size = ns.length := by rw [List.size_toArray]; exact i1.length
  have e2 : its2.toArray.size = ms.length := by rw [List.size_toArray]; exact i2.length
  have at1 : ∀ j (h1 : j < its.toArray.size), ∃ t, its.toArray[j] = .int (ns.getD j 0) t := fun j h1 => PyProof.Rows.IntsAre.int_at i1 _ _ (by simp at h1; simp [h1])
  have at2 : ∀ j (h1 : j < its2.toArray.size), ∃ t, its2.toArray[j] = .int (ms.getD j 0) t := fun j h1 => PyProof.Rows.IntsAre.int_at i2 _ _ (by simp at h1; simp [h1])
  have R := Ob.RcOp.tuples_ge (A := X.A) (s := s) (e := fun j => decide (ns.getD j 0 = ms.getD j 0)) (r := fun j => decide (ms.getD j 0 ≤ ns.getD j 0)) p1 p2 hu (fun j h1 h2 => by
    obtain ⟨t, et⟩ := at1 j h1
    obtain ⟨t', et'⟩ := at2 j h2
    rw [et, et']
    have z : (ns.getD j 0 == ms.getD j 0) = decide (ns.getD j 0 = ms.getD j 0) := by
      by_cases q : ns.getD j 0 = ms.getD j 0
      · rw [decide_eq_true q]; exact beq_iff_eq.mpr q
      · rw [decide_eq_false q]; exact beq_eq_false_iff_ne.mpr q
    rw [← z]
    exact SeqAt.EqAt.int_int _ _ _ _) (fun j h1 h2 _ => by
    obtain ⟨t, et⟩ := at1 j h1
    obtain ⟨t', et'⟩ := at2 j h2
    rw [et, et']
    exact Ob.RcOp.ge_int _ _ _ _)
  rw [e1, e2] at R
  have z : wpAny (model X.prog X.w) X.A (compareOp .GtE (.ref a) (.ref b)) (EP X pins σ Q) X.xe s := R X.prog X.w X.xe (EP X pins σ Q) ⟨.bl _, H, I, rfl, q⟩
  exact z

/-! ### o ^ o', instances of one own class -/
def rOwn2 (C : Addr) (sp : Sp) (E : XK) : R2 := fun x y H Q => ∃ a dx fs b dy gs, x = .ref a ∧ y = .ref b ∧ H a = some (.ins C dx fs) ∧ H b = some (.ins C dy gs) ∧ sp [x, y] H Q E
theorem op_own2 {CX : CXT} {k : Nat} {f C : Addr} {fd : FuncData} {ps : List Str} {sp : Sp} {E : XK} {op : Operator} (hc : PySem.W.selfFirst X.K C = true)
    (hs : PySem.W.findIn X.K (.ref C) (PySem.dunder op.info.2) = some (some (.ref f))) (hf : PySem.W.isFn X.K (.ref f) = true) (F : FnOk X.prog X.w X.K X.mg X.base CX k f fd ps sp) (hr : Room k X.A) (hb : Binds X.K fd ps []) (hx : Passes CX X E) :
    OpR X (binaryOp op) (rOwn2 C sp E) := by
  intro pins s σ H x y v u Q I rx ry h
  obtain ⟨a, dx, fs, b, dy, gs, rfl, rfl, ha, hb', q⟩ := h
  cases (show v = Value.ref a from rx)
  cases (show u = Value.ref b from ry)
  obtain ⟨mA, O, _⟩ := ins_get I.hok ha
  obtain ⟨od, J, _⟩ := O.look
  obtain ⟨mA', O', _⟩ := ins_get I.hok hb'
  obtain ⟨od', J', _⟩ := O'.look
  obtain ⟨m, hF⟩ := I.fr
  refine PySem.W.binop_K hF I.ok.mod.kin J J'.type hc hs hf ?_
  refine wpAny_mono (run_fn (us := [.ref a, .ref b]) (vs := [.ref a, .ref b]) (dvs := []) F hr hb .nil hx I (.cons rfl (.cons rfl .nil)) q) (fun w s' z => ?_) fun _ _ x => x
  obtain ⟨z', H', I', rz, qz⟩ := z
  exact SlX.cmpback rz ⟨z', H', I', rz, qz⟩

/-! ### comb -/
def rComb : List V → Hp → VK → Prop := fun vs H Q => ∃ a b : Int, vs = [.int a, .int b] ∧ (0 ≤ a ∧ a ≤ 12 ∧ 0 ≤ b ∧ b ≤ 12) ∧ Q (.int (PySem.W.mcComb a b)) H
theorem cr_comb : CallR X (.builtin "math.comb") rComb := by
  intro pins s σ H vs us Q I r h
  obtain ⟨a, b, rfl, ⟨h1, h2, h3, h4⟩, q⟩ := h
  obtain ⟨t, u, rfl⟩ := Vals.int2 r
  exact PySem.W.mc_comb h1 h3 (by omega) (.inl (by omega)) fun _ => ⟨.int _, H, I.tok _, ⟨_, rfl⟩, q⟩

/-! ### sorted of a tuple of ints, of a dict whose keys are tuples of ints, of a list of at most one -/
theorem collect_tuple {prog : Program} {w : World} {A : Around} {E : Value → Shared → Prop} {s : Shared} {l : Addr} {vs : List Value} {Q : List Value → Shared → Prop} (hl : s.heap.IsTuple l vs.toArray)
    (h : Q vs { s with heap := (s.heap.push (seqObj "list" #[] 0)).update s.heap.objs.size (Obj.mapSeq (· ++ vs.toArray)) }) (hsz : vs.length ≤ sizeLine) :
    wpAny (model prog w) A (collect (.ref l)) Q E s := by
  obtain ⟨o, ho, hc, n, hd⟩ := id hl
  unfold collect
  refine wpAny_bind (wpAny_runValue (codeAny_builtin entry_proto_collect' ?_))
  show wpAny _ _ (do again (.builtin "list.__iadd__" ⟨[← newList [], .ref l], []⟩)) _ _ s
  refine wpAny_bind (wpAny_newList (wpAny_pure ⟨Code.quiet_builtin _ (by decide +kernel), codeAny_builtin entry_list_iadd' ?_⟩))
  show wpAny _ _ (Builtin.List.listExtendWith (.ref s.heap.objs.size) (.ref l) (.ref s.heap.objs.size)) _ _ { s with heap := s.heap.push (seqObj "list" #[] 0) }
  unfold Builtin.List.listExtendWith
  have ho' : (s.heap.push (seqObj "list" #[] 0)).get? l = some o := Heap.get?_push_of_some _ ho
  refine wpAny_bind (wpAny_typeOf (T := "tuple") ⟨o, ho', hc⟩ ?_)
  have ht : (Value.type "tuple" == Value.type "tuple") = true := by rfl
  rw [if_pos (by rw [ht]; simp)]
  refine wpAny_bind (listItems_at ho' hd ?_)
  refine wpAny_bind (listItems_at (xs := #[]) (n := 0) (Heap.get?_push_size _ rfl) rfl ?_)
  rw [if_neg (by simp)]
  refine wpAny_bind (listUpdate_at (xs := #[]) (n := 0) (Heap.get?_push_size _ rfl) rfl ?_ (Nat.zero_le _) (by show (#[] ++ vs.toArray).size ≤ sizeLine + 1; simp only [Array.size_append, List.size_toArray, List.length_nil]; omega))
  refine wpAny_pure ?_
  show wpAny (model prog w) A (do
      let o ← load s.heap.objs.size
      match o.data with
      | .seq xs _ => pure xs.toList
      | _ => unsupported "internal:collect") Q E { s with heap := (s.heap.push (seqObj "list" #[] 0)).update s.heap.objs.size (Obj.mapSeq (· ++ vs.toArray)) }
  refine wpAny_bind (wpAny_load (get?_update_seq (Heap.get?_push_size _ rfl) _) ?_)
  show wpAny _ _ (pure ((#[] : Array Value) ++ vs.toArray).toList) Q E _
  rw [show ((#[] : Array Value) ++ vs.toArray).toList = vs by simp]
  exact wpAny_pure h
/-- the values of u, read by collect; all that stood stands -/
def Coll (X : Cx) (s : Shared) (u : Value) (vs : List Value) : Prop := ∀ (Q : List Value → Shared → Prop) (E : Value → Shared → Prop),
  (∀ (h1 : Heap) (tk : Nat), (∀ b o, s.heap.get? b = some o → h1.get? b = some o) → Q vs { s with heap := h1, toks := tk }) → wpAny (model X.prog X.w) X.A.in1 (collect u) Q E s
section
variable {pins : List (Addr × Obj)} {σ : L2.St} {H : Hp} {s : Shared}
theorem coll_tuple {l : Addr} {vs : List Value} (hl : s.heap.IsTuple l vs.toArray) (hsz : vs.length ≤ sizeLine) : Coll X s (.ref l) vs := fun Q E q =>
  collect_tuple hl (q _ s.toks fun b o e => by
    rw [Heap.get?_update_ne _ _ _ _ (Nat.ne_of_lt (Heap.lt_size e))]
    exact Heap.get?_push_of_some _ e) hsz
theorem coll_list {l : Addr} {vs : List Value} (hl : s.heap.IsList l vs.toArray) (hsz : vs.length ≤ sizeLine) : Coll X s (.ref l) vs := fun Q E q =>
  collect_list hl (q _ s.toks fun b o e => by
    rw [Heap.get?_update_ne _ _ _ _ (Nat.ne_of_lt (Heap.lt_size e))]
    exact Heap.get?_push_of_some _ e) hsz
theorem sorted_by {u : Value} {vs : List Value} {ltv : Value → Value → Bool} {Q : VK} (I : Inv X pins σ H s) (O : SrtO.Swo ltv) (hc : Coll X s u vs) (hz : vs.length ≤ sizeLine)
    (hS : 2 ≤ vs.length → ∀ (h1 : Heap) (tk : Nat) (a : Addr), SrtO.SortableO X.prog X.w X.A.in1.in1 { s with heap := h1, toks := tk } a vs ltv)
    (q : ∀ (out : List Value) (xs : List V) (p : Addr), SrtO.Srtd ltv out → SrtO.Stb ltv out vs → Vals xs out → H p = none → Q (.ref p) (upd H p (.lst xs))) (hv : ∀ out : List Value, out.Perm vs → ∃ xs, Vals xs out) :
    wpAny (model X.prog X.w) X.A (call (.builtin "sorted") [u]) (EP X pins σ Q) X.xe s := by
  refine Calls.call_function_entry kind_sorted plain_sorted entry_sorted (args_sorted1 _) ?_
  unfold Builtin.«sorted»
  refine wpAny_bind (m := checkCount "sorted" 1 1 _) (wpAny_pure ?_)
  refine wpAny_bind (hc _ _ fun h1 tk k1 => ?_)
  refine wpAny_bind (wpAny_newList ?_ hz)
  have hoL : (h1.push (seqObj "list" vs.toArray 0)).get? h1.objs.size = some (seqObj "list" vs.toArray 0) := Heap.get?_push_size _ rfl
  refine wpAny_bind (wpAny_holding (wpAny_call_entry slot_list_sort ⟨_, hoL, rfl⟩ entry_list_sort (SrtO.list_sort_ord O hoL hz (fun h2 => hS h2 _ _ _) fun out hs hb => ⟨_, rfl, ?_⟩) (args_list_sort _)))
  obtain ⟨c, hc'⟩ := sortedHeap_at (vs := vs) (out := out.toArray) hoL
  have keep : ∀ b o, h1.get? b = some o → (sortedHeap (h1.push (seqObj "list" vs.toArray 0)) h1.objs.size vs out.toArray).get? b = some o := fun b o q => by
    have hlt := Heap.lt_size q
    rw [sortedHeap_old (Nat.ne_of_lt hlt) (by rw [size_push']; exact Nat.lt_succ_of_lt hlt)]
    exact Heap.get?_push_of_some _ q
  have I1 : Inv X pins σ H { s with heap := h1, toks := tk } := I.kept k1
  obtain ⟨xs, hx⟩ := hv out hb.perm
  have hn : H h1.objs.size = none := I1.hok.fresh (Nat.le_refl _)
  exact wpAny_pure ⟨_, rfl, .ref h1.objs.size, _, I1.laid (t' := tk) (o := .lst xs) keep (Nat.le_refl _) ⟨by rw [hx.length, hb.len]; exact hz, out, c, hx, hc'⟩, rfl, q out xs _ hs hb hx hn⟩
/-- sorted(t), t a tuple of ints -/
def rSortTI (K : PySem.W.Frag) : List V → Hp → VK → Prop := fun vs H Q => ∃ (a : Addr) (ns : List Int), vs = [V.ref a] ∧ SqT K H a (ns.map V.int) ∧
  ∀ (ns' : List Int) (p : Addr), ns'.Perm ns → ns'.Pairwise (· ≤ ·) → H p = none → Q (.ref p) (upd H p (.lst (ns'.map V.int)))
theorem cr_sortTI : CallR X (.builtin "sorted") (rSortTI X.K) := by
  intro pins s σ H vs us Q I r h
  obtain ⟨a, ns, rfl, hs, q⟩ := h
  obtain ⟨its, rv, hl, hz⟩ := I.tuple hs
  rw [Vals.ref1 r]
  have hi := rv.ints
  refine sorted_by I SrtO.swo_int (coll_tuple hl (by rw [← rv.length]; exact hz)) (by rw [← rv.length]; exact hz) (fun h2 h1 tk a => SrtO.ints_sortable hi h2) (fun out xs p h1 h2 hx hn => ?_) fun out ho => ?_
  · obtain ⟨k1, k2, k3⟩ := SrtO.ints_out hi h1 h2
    have e : xs = (out.map SrtO.iv).map V.int := Vals.inj hx (vals_of_ints k1)
    rw [e]
    exact q _ _ k2 k3 hn
  · refine ⟨(out.map SrtO.iv).map V.int, ?_⟩
    have hall : ∀ v ∈ out, ∃ i t, v = Value.int i t := fun v hv => PyProof.Rows.IntsAre.all hi v (ho.mem_iff.mp hv)
    clear q hs ho
    induction out with
    | nil => exact .nil
    | cons v r ih =>
      obtain ⟨i, t, rfl⟩ := hall v List.mem_cons_self
      exact .cons ⟨t, rfl⟩ (ih fun u hu => hall u (List.mem_cons_of_mem _ hu))

theorem paired_perm {α β : Type} {P : α → β → Prop} {xs ys : List α} (pm : ys.Perm xs) : ∀ {rs : List β}, Paired P xs rs → ∃ rs', Paired P ys rs' ∧ rs'.Perm rs := by
  induction pm with
  | nil => intro rs h; exact ⟨rs, h, .refl _⟩
  | @cons x l1 l2 _ ih =>
    intro rs h
    cases h with
    | cons a t =>
      obtain ⟨rs', h1, h2⟩ := ih t
      exact ⟨_ :: rs', .cons a h1, h2.cons _⟩
  | swap x y l =>
    intro rs h
    cases h with
    | cons a t =>
      cases t with
      | cons b t => exact ⟨_, .cons b (.cons a t), List.Perm.swap _ _ _⟩
  | trans _ _ ih1 ih2 =>
    intro rs h
    obtain ⟨r2, h2, p2⟩ := ih2 h
    obtain ⟨r1, h1, p1⟩ := ih1 h2
    exact ⟨r1, h1, p1.trans p2⟩
theorem paired_pw {α β : Type} {P : α → β → Prop} {R : α → α → Prop} {R' : β → β → Prop} (h : ∀ x y n m, P x n → P y m → R x y → R' n m) : ∀ {xs : List α} {rs : List β}, Paired P xs rs → xs.Pairwise R → rs.Pairwise R'
  | _, _, .nil, _ => .nil
  | _, _, .cons a t, pw => by
    obtain ⟨h1, h2⟩ := List.pairwise_cons.mp pw
    refine List.pairwise_cons.mpr ⟨fun m hm => ?_, paired_pw h t h2⟩
    obtain ⟨y, hy, hp⟩ := mem_right t m hm
    exact h _ _ _ _ a hp (h1 y hy)
where
  mem_right : ∀ {xs : List α} {rs : List β}, Paired P xs rs → ∀ m ∈ rs, ∃ y ∈ xs, P y m
    | _, _, .nil, m, hm => by cases hm
    | _, _, .cons a t, m, hm => by
      rcases List.mem_cons.mp hm with rfl | hm
      · exact ⟨_, List.mem_cons_self, a⟩
      · obtain ⟨y, hy, hp⟩ := mem_right t m hm
        exact ⟨y, List.mem_cons_of_mem _ hy, hp⟩
theorem paired_left {α β : Type} {P : α → β → Prop} : ∀ {xs : List α} {rs : List β}, Paired P xs rs → ∀ x ∈ xs, ∃ r ∈ rs, P x r
  | _, _, .nil, x, hx => by cases hx
  | _, _, .cons a t, x, hx => by
    rcases List.mem_cons.mp hx with rfl | hx
    · exact ⟨_, List.mem_cons_self, a⟩
    · obtain ⟨r, h1, h2⟩ := paired_left t x hx
      exact ⟨r, List.mem_cons_of_mem _ h1, h2⟩
theorem vals_mem : ∀ {xs : List V} {vs : List Value}, Vals xs vs → ∀ v ∈ vs, ∃ x ∈ xs, L2.RelV x v
  | _, _, .nil, v, hv => by cases hv
  | _, _, .cons a t, v, hv => by
    rcases List.mem_cons.mp hv with rfl | hv
    · exact ⟨_, List.mem_cons_self, a⟩
    · obtain ⟨r, h1, h2⟩ := vals_mem t v hv
      exact ⟨r, List.mem_cons_of_mem _ h1, h2⟩
def trivLt (_ _ : Value) : Bool := false
theorem triv_swo : SrtO.Swo trivLt := ⟨fun _ _ h => (Bool.false_ne_true h).elim, fun _ _ _ _ _ => rfl⟩
/-- sorted of what gives tuples of d ints in [0, B), fewer than 64; d may be 0 where there is at most one -/
theorem sorted_rows {P : V → List Int → Prop} {u : Value} {vs : List Value} {xs : List V} {rs : List (List Int)} {d : Nat} {B : Int} {Q : VK} (I : Inv X pins σ H s) (hP : ∀ y r, P y r → TupI X.K H y r) (hc : Coll X s u vs) (rv : Vals xs vs) (hp : Paired P xs rs) (hd : ∀ r ∈ rs, r.length = d ∧ TS.Bd B r)
    (h64 : rs.length < 64) (h1 : 1 ≤ d ∨ rs.length ≤ 1)
    (q : ∀ (ys : List V) (rs' : List (List Int)) (p : Addr), Paired P ys rs' → rs'.Perm rs → rs'.Pairwise (fun n m => TS.code B n ≤ TS.code B m) → H p = none → Q (.ref p) (upd H p (.lst ys))) :
    wpAny (model X.prog X.w) X.A (call (.builtin "sorted") [u]) (EP X pins σ Q) X.xe s := by
  have l1 : xs.length = rs.length := Paired.length hp
  have l2 : vs.length = rs.length := by rw [← rv.length, l1]
  have hz : vs.length ≤ sizeLine := by rw [l2, sizeLine_eq]; omega
  have hrefs : ∀ x ∈ xs, ∃ a, x = V.ref a := fun x hx => by
    obtain ⟨r, _, h⟩ := paired_left hp x hx
    obtain ⟨t, e, _⟩ := hP _ _ h
    exact ⟨t, e⟩
  obtain ⟨e1, e2⟩ := bkV_refs rv hrefs
  have back : ∀ out : List Value, out.Perm vs → Vals (out.map bkV) out ∧ (out.map bkV).Perm xs := fun out ho => ⟨bkV_vals fun u hu => e2 u (ho.mem_iff.mp hu), by rw [e1]; exact ho.map bkV⟩
  by_cases hs : rs.length ≤ 1
  · refine sorted_by I triv_swo hc hz (fun h2 => absurd h2 (by omega)) (fun out ys p a1 a2 hx hn => ?_) fun out ho => ⟨_, (back out ho).1⟩
    obtain ⟨b1, b2⟩ := back out a2.perm
    have e : ys = out.map bkV := Vals.inj hx b1
    rw [← e] at b2
    obtain ⟨rs', p1, p2⟩ := paired_perm b2 hp
    refine q ys rs' p p1 p2 ?_ hn
    have : rs'.length ≤ 1 := by rw [p2.length_eq]; exact hs
    match rs', this with
    | [], _ => exact .nil
    | [_], _ => exact List.pairwise_singleton _ _
  · have hd1 : 1 ≤ d := h1.resolve_right hs
    refine Calls.call_function_entry kind_sorted plain_sorted entry_sorted (args_sorted1 _) ?_
    unfold Builtin.«sorted»
    refine wpAny_bind (m := checkCount "sorted" 1 1 _) (wpAny_pure ?_)
    refine wpAny_bind (hc _ _ fun h1 tk k1 => ?_)
    refine wpAny_bind (wpAny_newList ?_ hz)
    have hoL : (h1.push (seqObj "list" vs.toArray 0)).get? h1.objs.size = some (seqObj "list" vs.toArray 0) := Heap.get?_push_size _ rfl
    have I1 : Inv X pins σ H { s with heap := h1, toks := tk } := I.kept k1
    have I2 : Inv X pins σ H { s with heap := h1.push (seqObj "list" vs.toArray 0), toks := tk } := I.kept fun b o e => Heap.get?_push_of_some _ (k1 b o e)
    have rows : ∀ v ∈ vs, ∃ r ∈ rs, ∃ t, v = Value.ref t ∧ SqT X.K H t (r.map V.int) := fun v hv => by
      obtain ⟨x, hx, rx⟩ := vals_mem rv v hv
      obtain ⟨r, hr, h⟩ := paired_left hp x hx
      obtain ⟨t, e, ht⟩ := hP _ _ h
      subst e
      exact ⟨r, hr, t, rx, ht⟩
    refine wpAny_bind (wpAny_holding (TS.call_sort_tups (s := { s with heap := h1.push (seqObj "list" vs.toArray 0), toks := tk }) (d := d) (B := B) hoL (by rw [l2]; exact h64) hd1 (fun v hv => ?_) fun out a1 a2 => ?_))
    · obtain ⟨r, hr, t, rfl, ht⟩ := rows v hv
      exact ⟨r, tupI_raw I2 ht, (hd r hr).1, (hd r hr).2⟩
    · obtain ⟨c, hc'⟩ := sortedHeap_at (vs := vs) (out := out) hoL
      have keep : ∀ b o, h1.get? b = some o → (sortedHeap (h1.push (seqObj "list" vs.toArray 0)) h1.objs.size vs out).get? b = some o := fun b o q => by
        have hlt := Heap.lt_size q
        rw [sortedHeap_old (Nat.ne_of_lt hlt) (by rw [size_push']; exact Nat.lt_succ_of_lt hlt)]
        exact Heap.get?_push_of_some _ q
      obtain ⟨b1, b2⟩ := back out.toList a1
      obtain ⟨rs', p1, p2⟩ := paired_perm b2 hp
      have hn : H h1.objs.size = none := I1.hok.fresh (Nat.le_refl _)
      have pw : rs'.Pairwise (fun n m => TS.code B n ≤ TS.code B m) := by
        refine paired_pw (R := fun x y => ∀ n m, TupI X.K H x n → TupI X.K H y m → TS.code B n ≤ TS.code B m) (fun x y n m hx hy h => h n m hx hy) (Paired.mapP p1 hP) ?_
        rw [List.pairwise_map]
        refine List.Pairwise.imp (fun {u v} huv n m hn hm => ?_) a2
        obtain ⟨t, et, ht⟩ := hn
        obtain ⟨t', et', ht'⟩ := hm
        have eu := bkV_ref et
        have ev := bkV_ref et'
        have i1 : TS.intsOf (h1.push (seqObj "list" vs.toArray 0)) u = n := by rw [eu]; exact (tupI_raw I2 ht).ints
        have i2 : TS.intsOf (h1.push (seqObj "list" vs.toArray 0)) v = m := by rw [ev]; exact (tupI_raw I2 ht').ints
        rw [← i1, ← i2]
        exact huv
      have hlen : (out.toList.map bkV).length ≤ sizeLine := by rw [b2.length_eq, l1, sizeLine_eq]; omega
      exact wpAny_pure ⟨_, rfl, .ref h1.objs.size, _, I1.laid (t' := tk) (o := .lst (out.toList.map bkV)) keep (Nat.le_refl _) ⟨hlen, out.toList, c, b1, hc'⟩, rfl, q _ _ _ p1 p2 pw hn⟩
def rSortRL (K : PySem.W.Frag) : List V → Hp → VK → Prop := fun vs H Q => ∃ (a : Addr) (xs : List V) (rs : List (List Int)) (d : Nat) (B : Int), vs = [V.ref a] ∧ SqL K H a xs ∧ Paired (fun y r => ∃ t, y = .ref t ∧ H t = some (.tup (r.map V.int))) xs rs ∧ (∀ r ∈ rs, r.length = d ∧ TS.Bd B r) ∧ rs.length < 64 ∧ (1 ≤ d ∨ rs.length ≤ 1) ∧
  ∀ (ys : List V) (rs' : List (List Int)) (p : Addr), Paired (fun y r => ∃ t, y = .ref t ∧ H t = some (.tup (r.map V.int))) ys rs' → rs'.Perm rs → rs'.Pairwise (fun n m => TS.code B n ≤ TS.code B m) → H p = none → Q (.ref p) (upd H p (.lst ys))
theorem cr_sortRL : CallR X (.builtin "sorted") (rSortRL X.K) := by
  intro pins s σ H vs us Q I r h
  obtain ⟨a, xs, rs, d, B, rfl, hs, hp, hd, h64, h1, q⟩ := h
  obtain ⟨its, rv, hl, hz⟩ := I.list hs
  rw [Vals.ref1 r]
  exact sorted_rows I (fun y r ⟨t, e, ht⟩ => ⟨t, e, .of ht⟩) (coll_list hl.isList (by rw [← rv.length]; exact hz)) rv hp hd h64 h1 q
def rSortRD (K : PySem.W.Frag) : List V → Hp → VK → Prop := fun vs H Q => ∃ (a : Addr) (kvs : List (List Key × V)) (rs : List (List Int)) (d : Nat) (B : Int), vs = [V.ref a] ∧ Rd H a (.dT kvs) ∧ kvs.map (·.1) = rs.map (·.map Sum.inl) ∧ (∀ r ∈ rs, r.length = d ∧ TS.Bd B r) ∧ rs.length < 64 ∧ (1 ≤ d ∨ rs.length ≤ 1) ∧
  ∀ (ys : List V) (rs' : List (List Int)) (p : Addr), Paired (fun y r => ∃ t, y = .ref t ∧ H t = some (.tup (r.map V.int))) ys rs' → rs'.Perm rs → rs'.Pairwise (fun n m => TS.code B n ≤ TS.code B m) → H p = none → Q (.ref p) (upd H p (.lst ys))
theorem cr_sortRD (hcalm : X.calm = true) : CallR X (.builtin "sorted") (rSortRD X.K) := by
  intro pins s σ H vs us Q I r h
  obtain ⟨a, kvs, rs, d, B, rfl, hd, hk, hB, h64, h1, q⟩ := h
  rw [Vals.ref1 r]
  obtain ⟨z, hs, ks, pr, o, es, ep, ho, hx, hdt, he, hn⟩ := (show ObjOk X.prog X.w H s.heap a (.dT kvs) from hd.ok I.hok)
  have l1 : es.size = ks.length := size_of_entries he
  have l2 : kvs.length = ks.length := Paired.length pr
  have l3 : kvs.length = rs.length := by have := congrArg List.length hk; simpa using this
  have hcoll : Coll X s (.ref a) (ks.map fun x => Value.ref x.2.1) := fun Q E q => by
    refine PySem.W.kdu_collect (A := X.A.in1) (kdl_raw hs hx hdt) (I.ok.hd hcalm) ho (by rw [sizeLine_eq]; omega) fun h' tk acc hk' it => ?_
    have ea : acc.toList = ks.map fun x => Value.ref x.2.1 := by
      have hl : acc.toList.length = ks.length := by rw [Array.length_toList, it.1]; exact l1
      apply List.ext_getElem?
      intro j
      rw [List.getElem?_map]
      cases hj : acc.toList[j]? with
      | none =>
        have h1 := List.getElem?_eq_none_iff.mp hj
        rw [List.getElem?_eq_none (by omega)]
        all_goals rfl
      | some v =>
        obtain ⟨en, hen, hv⟩ := it.2 j v (by rw [← Array.getElem?_toList]; exact hj)
        have qe := entry_at he j
        rw [hen] at qe
        cases hb : ks[j]? with
        | none =>
          rw [hb] at qe
          exact nomatch (show some en = none from qe)
        | some b =>
          rw [hb] at qe
          have e2 : en = entryOfKey (tupleKind (mixKind X.prog X.w)) b := Option.some.inj qe
          rw [hv, e2]
          all_goals rfl
    rw [ea]
    exact q h' tk hk'
  have hpair : ∀ {kvs : List (List Key × V)} {ks : List (List Key × Addr × Value)} {rs : List (List Int)}, Paired (fun (p : List Key × V) (q : List Key × Addr × Value) => p.1 = q.1 ∧ H q.2.1 = some (.tup (p.1.map kV)) ∧ RelV p.2 q.2.2) kvs ks → kvs.map (·.1) = rs.map (·.map Sum.inl) →
      Paired (fun y r => ∃ t, y = V.ref t ∧ H t = some (.tup (r.map V.int))) (ks.map fun x => V.ref x.2.1) rs := by
    intro kvs ks rs pr
    induction pr generalizing rs with
    | nil =>
      intro e
      cases rs with
      | nil => exact .nil
      | cons _ _ => cases e
    | @cons kv kx _ _ a t ih =>
      intro e
      cases rs with
      | nil => cases e
      | cons r rs =>
        obtain ⟨e1, e2⟩ := List.cons_eq_cons.mp e
        refine .cons ⟨_, rfl, ?_⟩ (ih e2)
        refine a.2.1.trans ?_
        rw [show kv.fst = r.map Sum.inl from e1, List.map_map]; rfl
  have hp := hpair pr hk
  have rv : Vals (ks.map fun x => V.ref x.2.1) (ks.map fun x => Value.ref x.2.1) := by
    clear hpair hp hcoll l1 l2 he hn pr
    induction ks with
    | nil => exact .nil
    | cons a t ih => exact .cons rfl ih
  exact sorted_rows I (fun y r ⟨t, e, ht⟩ => ⟨t, e, .of ht⟩) hcoll rv hp hB h64 h1 q
end
/-! ### len(set(t)), t a tuple or a list of distinct ints -/
def tLenSet (K : PySem.W.Frag) (ta : TE) : TE := fun σ H Q => ta σ H fun x H1 => ∃ (l : Addr) (ns : List Int), x = V.ref l ∧ (SqL K H1 l (ns.map V.int) ∨ SqT K H1 l (ns.map V.int)) ∧ ns.Nodup ∧ ns.length ≤ 60 ∧ Q (.int (ns.length : Nat)) H1
theorem pe_lenSet {a : Expr} {ta : TE} {p p2 q pos : Pos} (hg : Gl X "len") (hm : X.mg "len" = none) (hg2 : Gl X "set") (hm2 : X.mg "set" = none) (ha : PE X a ta) (hc : X.calm = true := by rfl)
    (na : starEach [a] X.env = (false, eval a X.env) :: starEach [] X.env := by rfl) : PE X (.Call (.Name "len" p) [.Call (.Name "set" p2) [a] [] q] [] pos) (tLenSet X.K ta) := by
  refine ⟨fun pins s σ H Q I h => ?_⟩
  refine Call_ (ld_blt I hg hm boot_len ?_)
  refine PyProof.Rows.callWith_builtin1 (PyProof.Rows.args_cons ?_ rfl) rfl rfl
  refine Call_ (ld_blt I hg2 hm2 boot_set ?_)
  refine PyProof.Rows.callWith_type1 (PyProof.Rows.args_cons (thn (ha.run pins s σ H _ I h) fun v s1 ⟨x, H1, I1, r1, q1⟩ => PyProof.Rows.args_nil ?_) na) na rfl
  obtain ⟨l, ns, rfl, hq, hnd, hl, q1⟩ := q1
  cases r1
  rcases hq with hq | hq
  · obtain ⟨its, r, pl, hz⟩ := I1.list hq
    have hlen : its.toArray.size = ns.length := by rw [List.size_toArray, ← r.length, List.length_map]
    refine call_set_list (I1.ok.hd hc) pl.isList (by simpa using RZ.intsAre_vals r) (by rw [hlen]; unfold scanBound; omega) fun h' tk hS hk => ?_
    refine PyProof.Rows.args_nil ?_
    rw [hlen, firstMet_nodup ns hnd ns.length (Nat.le_refl _), List.take_length] at hS
    obtain ⟨o, es, ep, t, ho, hex, hd, _, _, _, hf, hn⟩ := hS
    have I2 : Inv X pins σ H1 { s1 with heap := h', toks := tk } := I1.kept fun b o e => hk b o (Heap.lt_size e) e
    exact call_len_set ho hex hd hf (by rw [hn] <;> omega) ⟨.int ns.length, H1, I2.tok _, ⟨_, by rw [hn]⟩, q1⟩
  · obtain ⟨its, r, pl, hz⟩ := I1.tuple hq
    have hlen : its.toArray.size = ns.length := by rw [List.size_toArray, ← r.length, List.length_map]
    refine call_set_tupI ns (I1.ok.hd hc) pl (by simpa using RZ.intsAre_vals r) (by unfold scanBound; omega) fun h' tk c hS hcn hk => ?_
    refine PyProof.Rows.args_nil ?_
    obtain ⟨o, es, ep, t, ho, hex, hd, _, nd, hm, _, hf, hn, _⟩ := hS
    have hc' : es.size = ns.length := by
      have pm : (es.toList.map keyOf).Perm ns := (List.perm_ext_iff_of_nodup nd hnd).mpr fun k => by rw [← hm k]; simp
      have := pm.length_eq
      simpa using this
    have I2 : Inv X pins σ H1 { s1 with heap := h', toks := tk } := I1.kept fun b o e => hk b o e
    exact call_len_set ho hex hd hf (by rw [hc'] <;> omega) ⟨.int ns.length, H1, I2.tok _, ⟨_, by rw [hc']⟩, q1⟩
/-! ### a class held by a local name, made -/
def tMakeL (i : Nat) (C : Addr) (sp : Sp) (E : XK) (t : TA) : TE := fun σ H Q => σ[i]? = some (some (.ref C)) ∧ tMake C sp [] E t σ H Q
theorem pe_makeL {CX : CXT} {k : Nat} {f C : Addr} {fd : FuncData} {ps : List Str} {sp : Sp} {E : XK} {x : Str} {p pos : Pos} {e : Expr} {es : List Expr} {t : TA} {i : Nat} (M : Mk X.K C f) (F : FnOk X.prog X.w X.K X.mg X.base CX k f fd ps sp) (hr : Room (k + 1) X.A) (hb : Binds X.K fd ps []) (hx : Passes CX X E) (ha : PA X (e :: es) t)
    (hN : X.N[i]? = some x) (hv : Vis X.env.scope x) (hdb : (x == ("__debug__" : Str)) = false := by decide) (hcd : (x == ("__classdict__" : Str)) = false := by decide)
    (he : starEach (e :: es) X.env = (false, eval e X.env) :: starEach es X.env := by rfl) (hpl : (backTo pos (starEach es X.env)).any (·.1) = false := by rfl) : PE X (.Call (.Name x p) (e :: es) [] pos) (tMakeL i C sp E t) := by
  refine ⟨fun pins s σ H Q I h => ?_⟩
  obtain ⟨hs, ht⟩ := h
  refine wpAny_Call_Name_kw (thn ((pe_var (pos := p) hN hv hdb hcd).run pins s σ H (fun v H1 => v = .ref C ∧ H1 = H) I ⟨.ref C, hs, rfl, rfl⟩) fun u s1 ⟨v, H1, I1, r1, q1⟩ => ?_)
  obtain ⟨rfl, rfl⟩ := q1
  cases r1
  refine PySem.W.callWith_K (h₀ := X.base) I.ok.mod.kin M.kp (thn (ha.run pos pins s1 σ _ _ I1 ht) fun us s2 ⟨vs, H2, I2, r, q⟩ => ⟨I2.kIn, ?_⟩) he hpl
  exact run_make M F hr hb .nil hx I2 r q
end
end NAX

set_option Elab.async false
set_option linter.all false
set_option maxRecDepth 100000
set_option maxHeartbeats 4000000
set_option autoImplicit false
namespace NA
open PySem PySem.Spec PyProof.Rows L2

section
variable {K : PySem.W.Frag} {C : Addr} {S S' H H' S0 H0 : Hp} {σ : L2.St} {Γ Γ' : List Sl}
/-! ### comprehensions -/
def wipeG (Γ : List Sl) : List Nat → List Sl
  | [] => Γ
  | v :: vs => (wipeG Γ vs).set v .no
theorem EnvOk.forget (E : EnvOk K C S H σ Γ) (v : Nat) : EnvOk K C S H (σ.set v none) (Γ.set v .no) := by
  refine ⟨E.le, by simp [E.len], fun j s e => ?_, fun j k s t p e1 e2 m1 m2 f1 f2 => ?_⟩
  · rw [List.getElem?_set] at e
    by_cases h : v = j
    · subst h
      by_cases hl : v < Γ.length
      · rw [if_pos rfl, if_pos hl] at e; cases e
        exact ⟨none, by rw [List.getElem?_set, if_pos rfl, if_pos (by rw [E.len]; exact hl)], trivial⟩
      · rw [if_pos rfl, if_neg hl] at e; cases e
    · rw [if_neg h] at e
      rw [List.getElem?_set, if_neg h]
      exact E.ok j s e
  · rw [List.getElem?_set] at e1 e2 f1 f2
    by_cases h1 : v = j
    · rw [if_pos h1] at e1; split at e1 <;> cases e1; cases m1
    · by_cases h2 : v = k
      · rw [if_pos h2] at e2; split at e2 <;> cases e2; cases m2
      · rw [if_neg h1] at e1 f1
        rw [if_neg h2] at e2 f2
        exact E.dis j k s t p e1 e2 m1 m2 f1 f2
theorem EnvOk.wipe (E : EnvOk K C S H σ Γ) : ∀ vs : List Nat, EnvOk K C S H (L2.wipe σ vs) (wipeG Γ vs)
  | [] => E
  | v :: vs => (EnvOk.wipe E vs).forget v
theorem wipe_at (σ : L2.St) (k : Nat) : ∀ vs : List Nat, (L2.wipe σ vs)[k]? = if k ∈ vs then (if k < σ.length then some none else none) else σ[k]?
  | [] => by simp [L2.wipe]
  | v :: vs => by
    unfold L2.wipe
    rw [List.getElem?_set, wipe_at σ k vs, wipe_length]
    by_cases h : v = k
    · subst h; simp
    · have h2 : (k ∈ v :: vs) ↔ k ∈ vs := by simp [Ne.symm h]
      rw [if_neg h]
      by_cases h3 : k ∈ vs
      · rw [if_pos h3, if_pos (h2.mpr h3)]
      · rw [if_neg h3, if_neg (fun z => h3 (h2.mp z))]
theorem wipe_same {σ' : L2.St} {vs is : List Nat} (hl : σ'.length = (L2.wipe σ vs).length) (ho : ∀ k, k ∉ is → σ'[k]? = (L2.wipe σ vs)[k]?) (hs : ∀ k ∈ is, k ∈ vs) : L2.wipe σ' vs = L2.wipe σ vs := by
  apply List.ext_getElem?
  intro k
  rw [wipe_at σ' k vs, wipe_at σ k vs]
  rw [wipe_length] at hl
  by_cases h : k ∈ vs
  · rw [if_pos h, if_pos h, hl]
  · rw [if_neg h, if_neg h, ho k (fun z => h (hs k z)), wipe_at, if_neg h]
/-- one item of a comprehension: into the slots, the test, the element -/
def CStep (K : PySem.W.Frag) (C : Addr) (g : TG) (tt : TT) (te : TE) (vs : List Nat) (Γw : List Sl) (d : D) (c : Bool) (y : D) : Prop :=
  ∃ is Γ', (∀ k ∈ is, k ∈ vs) ∧ TgE K C g is d Γw Γ' ∧ EvT K C tt Γ' c ∧ (c = true → EvE K C te Γ' y)
theorem et_yes : EvT K C tYes Γ true := fun σ S H E Q q => q S H (Grow.refl E.le)
theorem cstep_name {tt : TT} {te : TE} {vs : List Nat} {Γw : List Sl} {d y : D} {c : Bool} {j : Nat} (hj : j ∈ vs) (h1 : EvT K C tt (Γw.set j (.val d)) c) (h2 : c = true → EvE K C te (Γw.set j (.val d)) y) : CStep K C (gName j) tt te vs Γw d c y :=
  ⟨[j], _, fun k h => by have : k = j := by simpa using h
                         rw [this]; exact hj, tg_name, h1, h2⟩
/-- the list so far -/
def Acc (K : PySem.W.Frag) (C : Addr) (S1 H1 : Hp) (Dl : Addr) (ds : List D) (H' : Hp) : Prop := ∃ S' acc, Grow S1 H1 S' H' ∧ S' Dl = none ∧ H' Dl = some (.lst acc) ∧ IsL K C S' acc ds ∧ ds.length ≤ 1000
theorem acc_turn {S1 H1 : Hp} {Dl : Addr} {ds : List D} {g : TG} {tt : TT} {te : TE} {vs : List Nat} {d y : D} {c : Bool} {x : V} (E : EnvOk K C S1 H1 σ Γ) (hD : H1 Dl = none) (hn : ds.length < 1000) (a : Acc K C S1 H1 Dl ds H') (st : CStep K C g tt te vs (wipeG Γ vs) d c y)
    (hx : ∀ S', Grow S1 H1 S' H' → S' Dl = none → (∃ acc, H' Dl = some (.lst acc)) → ∃ S'', Grow S1 H1 S'' H' ∧ Same S' S'' ∧ S'' Dl = none ∧ Is K C S'' x d) :
    g x (L2.wipe σ vs) H' fun σ2 H2 => L2.wipe σ2 vs = L2.wipe σ vs ∧ tt σ2 H2 fun b H3 => if b = true then te σ2 H3 fun z H4 => ∃ acc, H4 Dl = some (.lst acc) ∧ acc.length < sizeLine ∧ Acc K C S1 H1 Dl (ds ++ if c = true then [y] else []) (upd H4 Dl (.lst (acc ++ [z]))) else Acc K C S1 H1 Dl (ds ++ if c = true then [y] else []) H3 := by
  obtain ⟨S', acc, g1, s1, h1, l1, n1⟩ := a
  obtain ⟨S2, g2, s2, f2, ix⟩ := hx S' g1 s1 ⟨acc, h1⟩
  obtain ⟨is, Γ2, hi, tg, et, ee⟩ := st
  have E2 := (E.wipe vs).grow g2
  refine tg _ S2 H' x E2 ix _ fun σ2 E3 l3 o3 => ⟨wipe_same l3 o3 hi, et σ2 S2 H' E3 _ fun S3 H3 g3 => ?_⟩
  obtain ⟨f3, h3⟩ := g3.keepM f2 h1 (fun xs z => nomatch z)
  cases c with
  | false => exact ⟨S3, acc, g2.trans g3, f3, h3, by rw [if_neg Bool.false_ne_true, List.append_nil]; exact (l1.mono s2).mono g3.hs, by rw [if_neg Bool.false_ne_true, List.append_nil]; exact n1⟩
  | true =>
    refine ee rfl σ2 S3 H3 (E3.grow g3) _ fun z S4 H4 g4 i4 => ?_
    obtain ⟨f4, h4⟩ := g4.keepM f3 h3 (fun xs z => nomatch z)
    have g5 := (g2.trans g3).trans g4
    refine ⟨acc, h4, by rw [l1.length]; exact Nat.lt_of_lt_of_le hn (by decide), S4, acc ++ [z], ⟨g5.hs, same_updM g5.le f4, same_updM g5.hh hD, g5.fr⟩, f4, upd_same, ?_, ?_⟩
    · rw [if_pos rfl]; exact (((l1.mono s2).mono g3.hs).mono g4.hs).append (.cons i4 .nil)
    · rw [if_pos rfl, List.length_append]; exact hn
theorem acc_done {S1 H1 : Hp} {Dl : Addr} {ds : List D} (hD : H1 Dl = none) (a : Acc K C S1 H1 Dl ds H') : ∃ S2, Grow S1 H1 S2 H' ∧ Is K C S2 (.ref Dl) (.lst ds) := by
  obtain ⟨S', acc, g1, s1, h1, l1, n1⟩ := a
  refine ⟨upd S' Dl (.lst acc), ⟨g1.hs.trans (same_add s1), Same.add g1.le h1, g1.hh, fun b o q q' => ?_⟩, .lst upd_same (l1.mono (same_add s1)) n1⟩
  by_cases hb : b = Dl
  · subst hb; exact .inl hD
  · rw [upd_ne hb] at q; exact g1.fr b o q q'
theorem acc_new {S1 H1 : Hp} {Dl : Addr} (e : Same S1 H1) (hD : H1 Dl = none) : Acc K C S1 H1 Dl [] (upd H1 Dl (.lst [])) := ⟨S1, [], Grow.newM e hD, same_free e hD, upd_same, .nil, Nat.zero_le _⟩
/-- what the first i items have given -/
def lcRes (f : D → Bool) (y : D → D) (ds : List D) : List D := (ds.filter f).map y
theorem lcRes_snoc (f : D → Bool) (y : D → D) (ds : List D) (d : D) : lcRes f y (ds ++ [d]) = lcRes f y ds ++ if f d = true then [y d] else [] := by
  unfold lcRes
  rw [List.filter_append, List.map_append]
  by_cases h : f d = true
  · rw [if_pos h, List.filter_cons_of_pos h]; rfl
  · rw [if_neg h, List.filter_cons_of_neg (by simpa using h)]; rfl
theorem lcRes_le (f : D → Bool) (y : D → D) (ds : List D) : (lcRes f y ds).length ≤ ds.length := by
  unfold lcRes; rw [List.length_map]; exact List.length_filter_le _ _
theorem take_snoc {α : Type} {l : List α} {i : Nat} {x : α} (h : l[i]? = some x) : l.take (i + 1) = l.take i ++ [x] := by rw [List.take_add_one, h]; rfl
theorem lcRes_lt (f : D → Bool) (y : D → D) {ds : List D} {i : Nat} (h : i < ds.length) (hn : ds.length ≤ 1000) : (lcRes f y (ds.take i)).length < 1000 := by
  have := lcRes_le f y (ds.take i)
  rw [List.length_take] at this
  omega
variable {tl te : TE} {tt : TT} {g : TG} {ds : List D} {vs : List Nat}
theorem ev_lcL (f : D → Bool) (y : D → D) (h : EvE K C tl Γ (.lst ds)) (hs : ∀ d ∈ ds, CStep K C g tt te vs (wipeG Γ vs) d (f d) (y d)) : EvE K C (tLc (iList K tl) g tt te vs) Γ (.lst (lcRes f y ds)) := fun σ S H E Q q =>
  h σ S H E _ fun v S1 H1 g1 i1 => by
    obtain ⟨p, ws, rfl, hp, l, n⟩ := i1.lst_inv
    have E1 := E.grow g1
    refine ⟨p, rfl, ⟨ws, .of (g1.le _ _ hp)⟩, fun Dl hD => lc_list (xs := ws) (fun i H' => Acc K C S1 H1 Dl (lcRes f y (ds.take i)) H') (acc_new g1.le hD) (fun i H' _ a => ?_) (fun i x H' hx a => ?_) (fun H' a => ?_)⟩
    · obtain ⟨S', acc, g2, _⟩ := a
      exact .of (g2.le _ _ (g2.hs _ _ hp))
    · obtain ⟨d, hd, iv⟩ := l.get hx
      rw [take_snoc hd, lcRes_snoc]
      have hi := (List.getElem?_eq_some_iff.mp hd).1
      exact acc_turn E1 hD (lcRes_lt f y hi n) a (hs d (List.mem_of_getElem? hd)) fun S' g2 f2 _ => ⟨S', g2, Same.refl S', f2, iv.mono g2.hs⟩
    · rw [l.length, List.take_length] at a
      obtain ⟨S2, g2, i2⟩ := acc_done hD a
      exact q _ S2 H' (g1.trans g2) i2
theorem ev_lcT (f : D → Bool) (y : D → D) (h : EvE K C tl Γ (.tup ds)) (hs : ∀ d ∈ ds, CStep K C g tt te vs (wipeG Γ vs) d (f d) (y d)) : EvE K C (tLc (iTup K tl) g tt te vs) Γ (.lst (lcRes f y ds)) := fun σ S H E Q q =>
  h σ S H E _ fun v S1 H1 g1 i1 => by
    obtain ⟨p, ws, rfl, hp, l, n⟩ := i1.tup_inv
    have E1 := E.grow g1
    refine ⟨p, rfl, ⟨ws, .of (g1.le _ _ hp)⟩, fun Dl hD => lc_tup (xs := ws) (fun i H' => Acc K C S1 H1 Dl (lcRes f y (ds.take i)) H') (acc_new g1.le hD) (fun i H' _ a => ?_) (fun i x H' hx a => ?_) (fun H' a => ?_)⟩
    · obtain ⟨S', acc, g2, _⟩ := a
      exact .of (g2.le _ _ (g2.hs _ _ hp))
    · obtain ⟨d, hd, iv⟩ := l.get hx
      rw [take_snoc hd, lcRes_snoc]
      have hi := (List.getElem?_eq_some_iff.mp hd).1
      exact acc_turn E1 hD (lcRes_lt f y hi n) a (hs d (List.mem_of_getElem? hd)) fun S' g2 f2 _ => ⟨S', g2, Same.refl S', f2, iv.mono g2.hs⟩
    · rw [l.length, List.take_length] at a
      obtain ⟨S2, g2, i2⟩ := acc_done hD a
      exact q _ S2 H' (g1.trans g2) i2
def upTo (n : Nat) : List D := (List.range n).map fun (i : Nat) => D.int (i : Int)
theorem upTo_at {n i : Nat} (h : i < n) : (upTo n)[i]? = some (.int (i : Int)) := by unfold upTo; simp [h]
theorem upTo_length (n : Nat) : (upTo n).length = n := by unfold upTo; simp
theorem ev_lcR {tr : TA} {n : Int} (f : D → Bool) (y : D → D) (h : EvA K C tr Γ [.int n]) (hn : -1000 ≤ n ∧ n ≤ 1000) (hs : ∀ i : Nat, (i : Int) < n → CStep K C g tt te vs (wipeG Γ vs) (.int (i : Int)) (f (.int (i : Int))) (y (.int (i : Int)))) :
    EvE K C (tLc (iRng1 tr) g tt te vs) Γ (.lst (lcRes f y (upTo n.toNat))) := fun σ S H E Q q =>
  h σ S H E _ fun us S1 H1 g1 i1 => by
    have ev : us = [.int n] := by
      cases i1 with
      | cons a t => cases t; rw [a.int_inv]
    have E1 := E.grow g1
    refine ⟨n, ev, by omega, by omega, fun Dl hD => lc_range (lo := 0) (n := n.toNat) (fun i H' => Acc K C S1 H1 Dl (lcRes f y ((upTo n.toNat).take i)) H') (acc_new g1.le hD) (fun i H' hi a => ?_) (fun H' a => ?_)⟩
    · rw [take_snoc (upTo_at hi), lcRes_snoc, Int.zero_add]
      exact acc_turn E1 hD (lcRes_lt f y (by rw [upTo_length]; exact hi) (by rw [upTo_length]; omega)) a (hs i (by omega)) fun S' g2 f2 _ => ⟨S', g2, Same.refl S', f2, .int _⟩
    · rw [List.take_of_length_le (by rw [upTo_length]; exact Nat.le_refl _)] at a
      obtain ⟨S2, g2, i2⟩ := acc_done hD a
      exact q _ S2 H' (g1.trans g2) i2
/-- over the keys of a dict that stands in a slot -/
theorem ev_lcD {i : Nat} {kvs : List (List Int × D)} (hi : Γ[i]? = some (.md kvs)) (f : D → Bool) (y : D → D) (hk : ∀ kv ∈ kvs, kv.1.length ≤ 1000) (hs : ∀ kv ∈ kvs, CStep K C g tt te vs (wipeG (Γ.set i (.fd kvs)) vs) (room kv.1) (f (room kv.1)) (y (room kv.1))) :
    EvE K C (tLockE (tLc (iKeys (tVar i)) g tt te vs)) Γ (.lst (lcRes f y (kvs.map fun kv => room kv.1))) := fun σ S H E Q q => by
  obtain ⟨o, e1, p, ks, rfl, hS, hH, l, n⟩ := E.ok i _ hi
  refine ⟨p, _, hH, trivial, fun od => ?_⟩
  have E1 : EnvOk K C S (upd H p (.frz od (.dT ks))) σ (Γ.set i (.fd kvs)) := E.upd hi rfl e1 (slfd hS upd_same l n)
  refine ⟨.ref p, e1, p, od, rfl, .inr ⟨ks, upd_same, fun Dl hD => ?_⟩⟩
  generalize hH1 : upd H p (.frz od (.dT ks)) = H1 at E1 hD
  have hp1 : H1 p = some (.frz od (.dT ks)) := by rw [← hH1]; exact upd_same
  have hm : (kvs.map fun kv => room kv.1).length = kvs.length := List.length_map ..
  have lk : ks.length = kvs.length := l.length
  refine ⟨fun j m H' => m = ks.length - j ∧ j ≤ ks.length ∧ Acc K C S H1 Dl (lcRes f y ((kvs.map fun kv => room kv.1).take j)) H', ⟨ks.length, by simp, Nat.zero_le _, acc_new E1.le hD⟩, ?_⟩
  rintro j m H' ⟨rfl, hj, a⟩
  have hp' : H' p = some (.frz od (.dT ks)) := by
    obtain ⟨S', acc, g2, _⟩ := a
    exact g2.hh p _ hp1
  by_cases hlt : j < ks.length
  · refine .inr ⟨⟨hp', hlt⟩, fun H' => Acc K C S H1 Dl (lcRes f y ((kvs.map fun kv => room kv.1).take (j + 1))) H', fun H' a' => ⟨ks.length - (j + 1), by omega, rfl, hlt, a'⟩, fun x H'' yy => ?_⟩
    obtain ⟨rfl, k, v, qa, hk', rfl, hq⟩ := yy
    obtain ⟨r, d, hr, rfl⟩ := l.keyAt hk'
    have hd : (kvs.map fun kv => room kv.1)[j]? = some (room r) := by rw [List.getElem?_map, hr]; rfl
    rw [take_snoc hd, lcRes_snoc]
    refine acc_turn E1 hD (lcRes_lt f y (by rw [hm, ← lk]; exact hlt) (by rw [hm]; exact n)) a (hs (r, d) (List.mem_of_getElem? hr)) fun S' g2 f2 hl => ?_
    obtain ⟨acc, hl⟩ := hl
    rw [kV_inl] at hq
    obtain ⟨S'', g3, h3⟩ := Grow.addT g2.le hq
    have g4 : Grow S H1 S'' H'' := by
      refine ⟨g2.hs.trans g3.hs, g3.le, g2.hh, fun b o z z' => ?_⟩
      by_cases hb : S' b = none
      · rcases g3.fr b o z hb with w | w
        · rw [g3.le b o z] at w; cases w
        · exact .inr w
      · cases hb' : S' b with
        | none => exact absurd hb' hb
        | some u =>
          have := g3.hs b u hb'
          rw [z] at this; cases this
          exact g2.fr b _ hb' z'
    refine ⟨S'', g4, g3.hs, ?_, is_room h3 (hk (r, d) (List.mem_of_getElem? hr))⟩
    cases hb : S'' Dl with
    | none => rfl
    | some u =>
      rcases g3.fr Dl u hb f2 with w | ⟨xs, rfl⟩
      · rw [hl] at w; cases w
      · have := g3.le Dl _ hb
        rw [hl] at this; cases this
  · have ej : j = ks.length := by omega
    subst ej
    rw [List.take_of_length_le (by rw [hm, lk]; exact Nat.le_refl _)] at a
    refine .inl ⟨⟨hp', Nat.le_refl _⟩, hp', ?_⟩
    obtain ⟨S2, g2, i2⟩ := acc_done hD a
    have f2 : S2 p = none := (g2.keepM hS hp1 (fun xs z => nomatch z)).1
    refine q _ S2 _ ⟨g2.hs, same_updM g2.le f2, fun b o z => ?_, fun b o z z' => ?_⟩ i2
    · by_cases hb : b = p
      · subst hb; rw [upd_same, ← hH]; exact z
      · rw [upd_ne hb]; refine g2.hh b o ?_; rw [← hH1, upd_ne hb]; exact z
    · rcases g2.fr b o z z' with w | w
      · left
        by_cases hb : b = p
        · subst hb; rw [hp1] at w; cases w
        · rw [← hH1, upd_ne hb] at w; exact w
      · exact .inr w
end
end NA

set_option Elab.async false
set_option linter.all false
set_option maxRecDepth 100000
set_option maxHeartbeats 4000000
set_option autoImplicit false
namespace NA
open PySem PySem.Spec PyProof.Rows L2

/-! ### data as plain data -/
mutual
def D.py : D → PyData
  | .bl b => .bool b
  | .int i => .int i
  | .str s => .str s
  | .tup ds => .tuple (D.pyL ds)
  | .lst ds => .list (D.pyL ds)
  | _ => .none
def D.pyL : List D → List PyData
  | [] => []
  | d :: r => D.py d :: D.pyL r
end
mutual
def D.plain : D → Bool
  | .bl _ => true
  | .int _ => true
  | .str _ => true
  | .non => true
  | .tup ds => D.plainL ds
  | .lst ds => D.plainL ds
  | _ => false
def D.plainL : List D → Bool
  | [] => true
  | d :: r => D.plain d && D.plainL r
end
theorem pyL_ints : ∀ r : List Int, D.pyL (r.map D.int) = r.map PyData.int
  | [] => by simp [D.pyL]
  | i :: r => by simp only [List.map_cons, D.pyL, D.py]; rw [pyL_ints r]
theorem pyL_eq : ∀ ds : List D, D.pyL ds = ds.map D.py
  | [] => by simp [D.pyL]
  | d :: r => by simp only [List.map_cons, D.pyL]; rw [pyL_eq r]
theorem plainL_eq : ∀ ds : List D, D.plainL ds = ds.all D.plain
  | [] => by simp [D.plainL]
  | d :: r => by simp only [List.all_cons, D.plainL]; rw [plainL_eq r]
theorem plain_room (r : List Int) : D.plain (room r) = true := by
  show D.plain (.tup _) = true
  simp only [D.plain]
  rw [plainL_eq, List.all_map, List.all_eq_true]
  intro i _; simp [D.plain]
theorem plain_rooms (rs : List (List Int)) : D.plainL (rs.map room) = true := by
  rw [plainL_eq, List.all_map, List.all_eq_true]
  intro i _; exact plain_room i
section
variable {K : PySem.W.Frag} {C : Addr} {S S' H H' S0 H0 : Hp} {σ : L2.St} {Γ Γ' : List Sl}
mutual
theorem Is.dp (e : Same S H) : ∀ {v : V} {d : D}, Is K C S v d → d.plain = true → Dp K H v d.py
  | _, _, .non, _ => by simp only [D.py]; exact .non
  | _, _, .bl b, _ => by simp only [D.py]; exact .bl b
  | _, _, .int i, _ => by simp only [D.py]; exact .int i
  | _, _, .str s, _ => by simp only [D.py]; exact .str s
  | _, _, .tup h l n, q => by simp only [D.py]; exact .tup (.of (e _ _ h)) (IsL.dp e l (by simpa only [D.plain] using q))
  | _, _, .lst h l n, q => by simp only [D.py]; exact .lst (.of (e _ _ h)) (IsL.dp e l (by simpa only [D.plain] using q))
  | _, _, .scr h n, q => by simp only [D.plain] at q; cases q
  | _, _, .book h r, q => by simp only [D.plain] at q; cases q
  | _, _, .dct h n, q => by simp only [D.plain] at q; cases q
  | _, _, .raw v, q => by simp only [D.plain] at q; cases q
theorem IsL.dp (e : Same S H) : ∀ {vs : List V} {ds : List D}, IsL K C S vs ds → D.plainL ds = true → DpAll K H vs (D.pyL ds)
  | _, _, .nil, _ => by simp only [D.pyL]; exact .nil
  | _, _, .cons h t, q => by
    simp only [D.plainL, Bool.and_eq_true] at q
    simp only [D.pyL]; exact .cons (Is.dp e h q.1) (IsL.dp e t q.2)
end
theorem eqvAll_ints : ∀ r q : List Int, PyData.eqvAll (r.map PyData.int) (q.map PyData.int) = decide (r = q)
  | [], [] => by simp [PyData.eqvAll]
  | [], _ :: _ => by simp [PyData.eqvAll]
  | _ :: _, [] => by simp [PyData.eqvAll]
  | i :: r, j :: q => by
    simp only [List.map_cons, PyData.eqvAll, PyData.eqv]
    rw [eqvAll_ints r q]
    by_cases h : i = j
    · subst h; by_cases h2 : r = q
      · subst h2; simp
      · simp [h2]
    · simp [h]
theorem py_room (r : List Int) : (room r).py = .tuple (r.map PyData.int) := by show D.py (.tup _) = _; simp only [D.py]; rw [pyL_ints]
theorem eqv_room (r q : List Int) : PyData.eqv (room r).py (room q).py = decide (r = q) := by
  rw [py_room, py_room]; simp only [PyData.eqv]; exact eqvAll_ints r q
theorem canLay_ints : ∀ r : List Int, PyData.canLayAll0 (r.map PyData.int) = true
  | [] => by simp [PyData.canLayAll0]
  | i :: r => by simp only [List.map_cons, PyData.canLayAll0, PyData.canLay0, Bool.true_and]; exact canLay_ints r
theorem depth_ints : ∀ r : List Int, PyData.depthAll (r.map PyData.int) = 0
  | [] => by simp [PyData.depthAll]
  | i :: r => by simp only [List.map_cons, PyData.depthAll, PyData.depth]; rw [depth_ints r]; rfl
theorem canLay_room (r : List Int) : PyData.canLay0 (room r).py = true := by rw [py_room]; simp only [PyData.canLay0]; exact canLay_ints r
theorem depth_room (r : List Int) : PyData.depth (room r).py = 1 := by rw [py_room]; simp only [PyData.depth]; rw [depth_ints]
theorem canLay_rooms : ∀ rs : List (List Int), PyData.canLayAll0 (D.pyL (rs.map room)) = true
  | [] => by simp [PyData.canLayAll0, D.pyL]
  | i :: r => by simp only [List.map_cons, D.pyL, PyData.canLayAll0]; rw [canLay_room, canLay_rooms r]; rfl
theorem depth_rooms : ∀ rs : List (List Int), PyData.depthAll (D.pyL (rs.map room)) ≤ 1
  | [] => by simp [PyData.depthAll, D.pyL]
  | i :: r => by simp only [List.map_cons, D.pyL, PyData.depthAll]; rw [depth_room]; have := depth_rooms r; omega
theorem shaped_room (r : List Int) : SeqAt.shaped (room r).py = true := by
  unfold SeqAt.shaped; rw [canLay_room, depth_room]; rfl
theorem shaped_rooms (rs : List (List Int)) : SeqAt.shaped (D.py (rooms rs)) = true ∧ SeqAt.shaped (D.py (trooms rs)) = true := by
  have h1 := canLay_rooms rs
  have h2 := depth_rooms rs
  constructor
  · show SeqAt.shaped (D.py (.lst _)) = true
    unfold SeqAt.shaped; simp only [D.py, PyData.canLay0, PyData.depth]; rw [h1]; simp; omega
  · show SeqAt.shaped (D.py (.tup _)) = true
    unfold SeqAt.shaped; simp only [D.py, PyData.canLay0, PyData.depth]; rw [h1]; simp; omega
theorem any_rooms (q : List Int) : ∀ rs : List (List Int), ((D.pyL (rs.map room)).any fun z => PyData.eqv z (room q).py) = decide (q ∈ rs)
  | [] => by simp [D.pyL]
  | r :: rs => by
    simp only [List.map_cons, D.pyL, List.any_cons]
    rw [any_rooms q rs, eqv_room]
    by_cases h : r = q
    · subst h; simp
    · have h' : ¬ q = r := fun z => h z.symm
      simp [h, h']
theorem rv_inDT {q : List Int} {rs : List (List Int)} : RvD K C (NAX.rInDT K) (room q) (trooms rs) (.bl (decide (q ∈ rs))) := fun S H v w e a b Q qq => by
  have h2 := b.dp e (by show D.plain (.tup _) = true; simp only [D.plain]; exact plain_rooms rs)
  have h3 := (shaped_rooms rs).2
  refine ⟨_, D.pyL (rs.map room), a.dp e (plain_room q), by simpa only [D.py] using h2, shaped_room q, by simpa only [D.py] using h3, ?_⟩
  rw [any_rooms]; exact qq _ S H (Grow.refl e) (.bl _)
theorem rv_notInDT {q : List Int} {rs : List (List Int)} : RvD K C (NAX.rNotInDT K) (room q) (trooms rs) (.bl (!decide (q ∈ rs))) := fun S H v w e a b Q qq => by
  have h2 := b.dp e (by show D.plain (.tup _) = true; simp only [D.plain]; exact plain_rooms rs)
  have h3 := (shaped_rooms rs).2
  refine ⟨_, D.pyL (rs.map room), a.dp e (plain_room q), by simpa only [D.py] using h2, shaped_room q, by simpa only [D.py] using h3, ?_⟩
  rw [any_rooms]; exact qq _ S H (Grow.refl e) (.bl _)
theorem rv_inDL {q : List Int} {rs : List (List Int)} : RvD K C (rInD K) (room q) (rooms rs) (.bl (decide (q ∈ rs))) := fun S H v w e a b Q qq => by
  have h2 := b.dp e (by show D.plain (.lst _) = true; simp only [D.plain]; exact plain_rooms rs)
  have h3 := (shaped_rooms rs).1
  refine ⟨_, D.pyL (rs.map room), a.dp e (plain_room q), by simpa only [D.py] using h2, shaped_room q, by simpa only [D.py] using h3, ?_⟩
  rw [any_rooms]; exact qq _ S H (Grow.refl e) (.bl _)
theorem rv_notInDL {q : List Int} {rs : List (List Int)} : RvD K C (rNotInD K) (room q) (rooms rs) (.bl (!decide (q ∈ rs))) := fun S H v w e a b Q qq => by
  have h2 := b.dp e (by show D.plain (.lst _) = true; simp only [D.plain]; exact plain_rooms rs)
  have h3 := (shaped_rooms rs).1
  refine ⟨_, D.pyL (rs.map room), a.dp e (plain_room q), by simpa only [D.py] using h2, shaped_room q, by simpa only [D.py] using h3, ?_⟩
  rw [any_rooms]; exact qq _ S H (Grow.refl e) (.bl _)
theorem rv_eqD {d1 d2 : D} {b : Bool} (p1 : d1.plain = true) (p2 : d2.plain = true) (s1 : SeqAt.shaped d1.py = true) (s2 : SeqAt.shaped d2.py = true) (hb : PyData.eqv d1.py d2.py = b) : RvD K C (rEqD K) d1 d2 (.bl b) := fun S H v w e x y Q q => by
  refine ⟨_, _, x.dp e p1, y.dp e p2, s1, s2, ?_⟩
  rw [hb]; exact q _ S H (Grow.refl e) (.bl _)
theorem rv_neD {d1 d2 : D} {b : Bool} (p1 : d1.plain = true) (p2 : d2.plain = true) (s1 : SeqAt.shaped d1.py = true) (s2 : SeqAt.shaped d2.py = true) (hb : PyData.eqv d1.py d2.py = b) : RvD K C (rNeD K) d1 d2 (.bl (!b)) := fun S H v w e x y Q q => by
  refine ⟨_, _, x.dp e p1, y.dp e p2, s1, s2, ?_⟩
  rw [hb]; exact q _ S H (Grow.refl e) (.bl _)
theorem inV_ints (i : Int) : ∀ r : List Int, inV (.int i) (r.map V.int) = decide (i ∈ r)
  | [] => rfl
  | j :: r => by
    have ih := inV_ints i r
    unfold inV at ih ⊢
    simp only [List.map_cons, List.any_cons]
    rw [ih]
    by_cases h : j = i
    · subst h; simp [eqV]
    · have h' : ¬ i = j := fun z => h z.symm
      simp [eqV, h, h']
theorem flat_ints (r : List Int) : (r.map V.int).all flatV = true := by simp [List.all_map, flatV]
theorem rv_inI {i : Int} {r : List Int} : RvD K C (rIn K false) (.int i) (room r) (.bl (decide (i ∈ r))) := fun S H v w e a b Q q => by
  obtain ⟨p, rfl, h, _⟩ := b.room_inv
  rw [a.int_inv]
  refine ⟨p, _, rfl, .inr (.of (e _ _ h)), rfl, flat_ints r, ?_⟩
  rw [inV_ints]; exact q _ S H (Grow.refl e) (.bl _)
theorem rv_notInI {i : Int} {r : List Int} : RvD K C (rIn K true) (.int i) (room r) (.bl (!decide (i ∈ r))) := fun S H v w e a b Q q => by
  obtain ⟨p, rfl, h, _⟩ := b.room_inv
  rw [a.int_inv]
  refine ⟨p, _, rfl, .inr (.of (e _ _ h)), rfl, flat_ints r, ?_⟩
  rw [inV_ints]; exact q _ S H (Grow.refl e) (.bl _)
/-! ### slices -/
variable (K C) in
def EvO (t : TO) (Γ : List Sl) (o : Option Int) : Prop := ∀ σ S H, EnvOk K C S H σ Γ → ∀ Q : Option Int → Hp → Prop, (∀ S' H', Grow S H S' H' → Q o H') → t σ H Q
def cutD (ds : List D) (lo hi : Option Int) : List D := (ds.drop (HT.sIx ds.length 0 lo)).take (HT.sIx ds.length ds.length hi - HT.sIx ds.length 0 lo)
theorem IsL.cut {vs : List V} {ds : List D} (l : IsL K C S vs ds) (lo hi : Option Int) : IsL K C S (cutV vs lo hi) (cutD ds lo hi) := by
  unfold cutV cutD; rw [l.length]; exact (l.drop _).take _
variable {ta tb te tc tl : TE} {d d1 d2 d3 : D} {ds es : List D} {tA tB' : TT} {b b' : Bool} {t u : TS} {E : AE} {to th : TO} {lo hi : Option Int}
theorem eo_none : EvO K C tNoPart Γ none := fun σ S H E Q q => q S H (Grow.refl E.le)
theorem eo_some {i : Int} (h : EvE K C te Γ (.int i)) : EvO K C (tPart te) Γ (some i) := fun σ S H E Q q => h σ S H E _ fun v S1 H1 g i1 => ⟨i, i1.int_inv, q S1 H1 g⟩
theorem ev_slT (h : EvE K C te Γ (.tup ds)) (h1 : EvO K C to Γ lo) (h2 : EvO K C th Γ hi) : EvE K C (tSl (rSlA K) te to th) Γ (.tup (cutD ds lo hi)) := fun σ S H E Q q =>
  h σ S H E _ fun v S1 H1 g1 i1 => h1 σ S1 H1 (E.grow g1) _ fun S2 H2 g2 => h2 σ S2 H2 ((E.grow g1).grow g2) _ fun S3 H3 g3 => by
    obtain ⟨p, vs, rfl, hp, l, n⟩ := i1.tup_inv
    have le := g3.le
    have hp3 := g3.hs _ _ (g2.hs _ _ hp)
    have l3 := (l.mono g2.hs).mono g3.hs
    have G := (g1.trans g2).trans g3
    have hn : (cutD ds lo hi).length ≤ 1000 := by unfold cutD; rw [List.length_take, List.length_drop]; omega
    refine ⟨p, vs, rfl, .of (le _ _ hp3), fun z => ?_, fun _ x hx => ?_⟩
    · have e : cutD ds lo hi = ds := by
        unfold cutD; rw [← l.length, z.1, z.2, l.length]; simp
      rw [e] at q; exact q _ S3 H3 G (.tup hp3 l3 n)
    · exact q _ _ _ (G.trans (Grow.new le hx)) (.tup upd_same ((l3.cut lo hi).mono (same_upd (same_free le hx))) hn)
theorem ev_revL (h : EvE K C te Γ (.lst ds)) : EvE K C (tRevL K te) Γ (.lst ds.reverse) := fun σ S H E Q q =>
  h σ S H E _ fun v S1 H1 g1 i1 => by
    obtain ⟨p, vs, rfl, hp, l, n⟩ := i1.lst_inv
    exact ⟨p, vs, rfl, .of (g1.le _ _ hp), fun x hx => q _ _ _ (g1.trans (Grow.new g1.le hx)) (.lst upd_same (l.reverse.mono (same_upd (same_free g1.le hx))) (by simpa using n))⟩
/-! ### built-ins -/
theorem rc_lenT : RcD K C (Evl.rLenS K) [.tup ds] (.int ds.length) := fun S H vs e a Q q => by
  cases a with
  | cons h t =>
    cases t
    obtain ⟨p, vs, rfl, h1, l1, n1⟩ := h.tup_inv
    exact ⟨p, vs, rfl, .inr (.of (e _ _ h1)), by rw [l1.length]; exact q _ S H (Grow.refl e) (.int _)⟩
theorem rc_lenS {ns : List Int} : RcD K C (Evl.rLenS K) [.scr ns] (.int ns.length) := fun S H vs e a Q q => by
  cases a with
  | cons h t =>
    cases t
    cases h with
    | scr h n => exact ⟨_, _, rfl, .inl (L2.Same.seq e h), by rw [List.length_map]; exact q _ S H (Grow.refl e) (.int _)⟩
def rTupOf (K : PySem.W.Frag) : List V → Hp → VK → Prop := fun xs H Q => ∃ p ys, xs = [.ref p] ∧ ((SqL K H p ys ∧ ∀ l, H l = none → Q (.ref l) (upd H l (.tup ys))) ∨ (SqT K H p ys ∧ Q (.ref p) H))
def rLstOf (K : PySem.W.Frag) : List V → Hp → VK → Prop := fun xs H Q => ∃ p ys, xs = [.ref p] ∧ (SqL K H p ys ∨ SqT K H p ys) ∧ ∀ l, H l = none → Q (.ref l) (upd H l (.lst ys))
theorem rc_tupL : RcD K C (rTupOf K) [.lst ds] (.tup ds) := fun S H vs e a Q q => by
  cases a with
  | cons h t =>
    cases t
    obtain ⟨p, vs, rfl, h1, l1, n1⟩ := h.lst_inv
    exact ⟨p, vs, rfl, .inl ⟨.of (e _ _ h1), fun x hx => q _ _ _ (Grow.new e hx) (.tup upd_same (l1.mono (same_upd (same_free e hx))) n1)⟩⟩
theorem rc_lstL : RcD K C (rLstOf K) [.lst ds] (.lst ds) := fun S H vs e a Q q => by
  cases a with
  | cons h t =>
    cases t
    obtain ⟨p, vs, rfl, h1, l1, n1⟩ := h.lst_inv
    exact ⟨p, vs, rfl, .inl (.of (e _ _ h1)), fun x hx => q _ _ _ (Grow.new e hx) (.lst upd_same (l1.mono (same_upd (same_free e hx))) n1)⟩
theorem rc_lstT : RcD K C (rLstOf K) [.tup ds] (.lst ds) := fun S H vs e a Q q => by
  cases a with
  | cons h t =>
    cases t
    obtain ⟨p, vs, rfl, h1, l1, n1⟩ := h.tup_inv
    exact ⟨p, vs, rfl, .inr (.of (e _ _ h1)), fun x hx => q _ _ _ (Grow.new e hx) (.lst upd_same (l1.mono (same_upd (same_free e hx))) n1)⟩
theorem rc_sum {ns : List Int} : RcD K C (rSum K) [.lst (ns.map D.int)] (.int ns.sum) := fun S H vs e a Q q => by
  cases a with
  | cons h t =>
    cases t
    obtain ⟨p, vs, rfl, h1, l1, n1⟩ := h.lst_inv
    rw [l1.ints] at h1
    exact ⟨p, ns, rfl, .of (e _ _ h1), q _ S H (Grow.refl e) (.int _)⟩
def rAbs : List V → Hp → VK → Prop := fun xs H Q => ∃ i, xs = [.int i] ∧ Q (.int (if i < 0 then -i else i)) H
def rInt1 : List V → Hp → VK → Prop := fun xs H Q => (∃ i, xs = [.int i] ∧ Q (.int i) H) ∨ ∃ k, xs = [.bl k] ∧ Q (.int (if k then 1 else 0)) H
def rMx2 : List V → Hp → VK → Prop := fun xs H Q => ∃ i j, xs = [.int i, .int j] ∧ Q (.int (if j > i then j else i)) H
theorem rc_abs {i : Int} : RcD K C rAbs [.int i] (.int (if i < 0 then -i else i)) := fun S H vs e a Q q => by
  cases a with
  | cons h t => cases t; rw [h.int_inv]; exact ⟨i, rfl, q _ S H (Grow.refl e) (.int _)⟩
theorem rc_int {i : Int} : RcD K C rInt1 [.int i] (.int i) := fun S H vs e a Q q => by
  cases a with
  | cons h t => cases t; rw [h.int_inv]; exact .inl ⟨i, rfl, q _ S H (Grow.refl e) (.int _)⟩
theorem rc_max {i j : Int} : RcD K C rMx2 [.int i, .int j] (.int (if j > i then j else i)) := fun S H vs e a Q q => by
  cases a with
  | cons h t =>
    cases t with
    | cons h2 t => cases t; rw [h.int_inv, h2.int_inv]; exact ⟨i, j, rfl, q _ S H (Grow.refl e) (.int _)⟩
theorem rc_comb {a b : Int} (h : 0 ≤ a ∧ a ≤ 12 ∧ 0 ≤ b ∧ b ≤ 12) : RcD K C NAX.rComb [.int a, .int b] (.int (PySem.W.mcComb a b)) := fun S H vs e x Q q => by
  cases x with
  | cons h1 t =>
    cases t with
    | cons h2 t => cases t; rw [h1.int_inv, h2.int_inv]; exact ⟨a, b, rfl, h, q _ S H (Grow.refl e) (.int _)⟩
/-- tuple(range(n)) -/
theorem ev_tupRg {n : Int} (h : EvE K C te Γ (.int n)) (h0 : 0 ≤ n) (hn : n ≤ 1000) : EvE K C (tTupRg (tRg1 te)) Γ (.tup (upTo n.toNat)) := fun σ S H E Q q =>
  h σ S H E _ fun v S1 H1 g1 i1 => by
    refine ⟨n, i1.int_inv, ⟨by omega, by omega, by omega, by omega, by omega⟩, fun x hx => ?_⟩
    have e : rgV 0 n = (upTo n.toNat).map fun d => match d with | .int i => V.int i | _ => V.non := by
      unfold rgV upTo
      rw [List.map_map, Int.sub_zero]
      refine List.map_congr_left fun i _ => ?_
      show V.int (0 + (i : Int)) = V.int (i : Int)
      rw [Int.zero_add]
    have l : IsL K C S1 (rgV 0 n) (upTo n.toNat) := by
      have := isL_ints (K := K) (C := C) (S := S1) ((List.range n.toNat).map fun (i : Nat) => (i : Int))
      rw [List.map_map, List.map_map] at this
      rw [e]
      unfold upTo
      rw [List.map_map]
      exact this
    exact q _ _ _ (g1.trans (Grow.new g1.le hx)) (.tup upd_same (l.mono (same_upd (same_free g1.le hx))) (by rw [upTo_length]; omega))
/-! ### chains -/
theorem ev_chain {r r' : R2} (h1 : EvE K C ta Γ d1) (h2 : EvE K C tb Γ d2) (hr : RvD K C r d1 d2 (.bl b)) (h3 : b = true → EvE K C tc Γ d3) (hr' : b = true → RvD K C r' d2 d3 (.bl b')) : EvE K C (tChain r r' ta tb tc) Γ (.bl (b && b')) := fun σ S H E Q q =>
  h1 σ S H E _ fun v S1 H1 g1 i1 => h2 σ S1 H1 (E.grow g1) _ fun w S2 H2 g2 i2 => hr S2 H2 v w g2.le (i1.mono g2.hs) i2 _ fun z S3 H3 g3 i3 => ⟨b, i3.bl_inv, by
    have G := (g1.trans g2).trans g3
    cases b with
    | true => exact iteT (h3 rfl σ S3 H3 (((E.grow g1).grow g2).grow g3) _ fun x S4 H4 g4 i4 => hr' rfl S4 H4 w x g4.le ((i2.mono g3.hs).mono g4.hs) i4 _ fun y S5 H5 g5 i5 => q y S5 H5 ((G.trans g4).trans g5) i5)
    | false => exact iteF (q _ S3 H3 G (.bl _))⟩
/-! ### isinstance -/
theorem ev_raw {v : V} : EvE K C (tC v) Γ (.raw v) := fun σ S H E Q q => q _ S H (Grow.refl E.le) (.raw v)
inductive TyD (K : PySem.W.Frag) (C : Addr) : D → Value → Prop
  | bl (b : Bool) : TyD K C (.bl b) (.type "bool")
  | int (i : Int) : TyD K C (.int i) (.type "int")
  | str (s : Str) : TyD K C (.str s) (.type "str")
  | tup (ds : List D) : TyD K C (.tup ds) (.type "tuple")
  | lst (ds : List D) : TyD K C (.lst ds) (.type "list")
  | book (n s : Int) (rs : List (List Int)) (cl : Cls K C) (ha : PySem.W.findIn K (.ref C) "__class__" = some (some (.builtin "object.__class__")))
      (hn : PySem.W.specialIn K (.builtin "object.__class__") "__get__" = some (some (.builtin "getset_descriptor.__get__"))) (htk : PySem.W.takesIn K (.builtin "object.__class__") = some true)
      (hm : PySem.W.mroIn K C (.type "object") = some true) : TyD K C (.book n s rs) (.ref C)
theorem TyD.at {v : V} {t : Value} (h : TyD K C d t) (i : Is K C S v d) (e : Same S H) : TyX K H v t := by
  cases h with
  | bl b => rw [i.bl_inv]; exact .base (.bl b)
  | int b => rw [i.int_inv]; exact .base (.int b)
  | str b => rw [i.str_inv]; exact .base (.str b)
  | tup ds => obtain ⟨p, vs, rfl, h1, _⟩ := i.tup_inv; exact .base (.tup (e _ _ h1))
  | lst ds => obtain ⟨p, vs, rfl, h1, _⟩ := i.lst_inv; exact .base (.lst (e _ _ h1))
  | book n s rs cl ha hn htk hm =>
    cases i with
    | book h r => exact .base (.ins (e _ _ h) cl ha hn htk hm)
theorem rc_isi {c : V} {t u : Value} {b : Bool} (ht : TyD K C d t) (hc : ClsV c u) (hk : PySem.W.kitOne K t u = some b) : RcD K C (rIsi K) [d, .raw c] (.bl b) := fun S H vs e a Q q => by
  cases a with
  | cons h1 t =>
    cases t with
    | cons h2 t => cases t; rw [h2.raw_inv]; exact ⟨_, c, _, u, b, rfl, hc, ht.at h1 e, hk, q _ S H (Grow.refl e) (.bl _)⟩
/-! ### fields, calls -/
theorem ev_fldN {n s : Int} {rs : List (List Int)} (cl : Cls K C) (na : NoAttr K C "places") (h : EvE K C te Γ (.book n s rs)) : EvE K C (tFld K te "places") Γ (.int n) := fun σ S H E Q q =>
  h σ S H E _ fun v S1 H1 g1 i1 => by
    cases i1 with
    | book hp hr => exact ⟨_, C, _, _, .int n, rfl, g1.le _ _ hp, cl, na, by simp [bookF], q _ S1 H1 g1 (.int _)⟩
theorem ev_fldS {n s : Int} {rs : List (List Int)} (cl : Cls K C) (na : NoAttr K C "size") (h : EvE K C te Γ (.book n s rs)) : EvE K C (tFld K te "size") Γ (.int s) := fun σ S H E Q q =>
  h σ S H E _ fun v S1 H1 g1 i1 => by
    cases i1 with
    | book hp hr => exact ⟨_, C, _, _, .int s, rfl, g1.le _ _ hp, cl, na, by
      have h1 : (("size" : Str) == ("places" : Str)) = false := by decide
      simp [bookF, List.lookup, h1], q _ S1 H1 g1 (.int _)⟩
theorem ev_fldR {n s : Int} {rs : List (List Int)} (cl : Cls K C) (na : NoAttr K C "rooms") (h : EvE K C te Γ (.book n s rs)) : EvE K C (tFld K te "rooms") Γ (trooms rs) := fun σ S H E Q q =>
  h σ S H E _ fun v S1 H1 g1 i1 => by
    cases i1 with
    | book hp hr => exact ⟨_, C, _, _, _, rfl, g1.le _ _ hp, cl, na, by
      have h1 : (("rooms" : Str) == ("places" : Str)) = false := by decide
      have h2 : (("rooms" : Str) == ("size" : Str)) = false := by decide
      simp [bookF, List.lookup, h1, h2], q _ S1 H1 g1 hr⟩
/-- a promise told by data -/
def spR (K : PySem.W.Frag) (C : Addr) (R : List D → D → Prop) : Sp := fun vs H Q _ => ∃ S ds d, Same S H ∧ IsL K C S vs ds ∧ R ds d ∧ ∀ v S' H', Grow S H S' H' → Is K C S' v d → Q v H'
theorem ev_call {R : List D → D → Prop} {ta : TA} {X : XK} {dvs : List V} (ha : EvA K C ta Γ ds) (hd : ∀ S, IsL K C S dvs es) (h : R (ds ++ es) d) : EvE K C (tCall (spR K C R) dvs X ta) Γ d := fun σ S H E Q q =>
  ha σ S H E _ fun vs S1 H1 g1 i1 => ⟨S1, ds ++ es, d, g1.le, i1.append (hd S1), h, fun v S2 H2 g2 i2 => q v S2 H2 (g1.trans g2) i2⟩
theorem ev_call0 {R : List D → D → Prop} {ta : TA} {X : XK} (ha : EvA K C ta Γ ds) (h : R ds d) : EvE K C (tCall (spR K C R) [] X ta) Γ d := ev_call ha (fun _ => .nil) (by rw [List.append_nil]; exact h)
theorem ev_meth {R : List D → D → Prop} {ta : TA} {X : XK} {m : Str} {n s : Int} {rs : List (List Int)} (hm : (bookF n s .non).lookup m = none) (ho : EvE K C te Γ (.book n s rs)) (ha : EvA K C ta Γ ds) (h : R (.book n s rs :: ds) d) : EvE K C (tMeth C m (spR K C R) [] X te ta) Γ d := fun σ S H E Q q =>
  ho σ S H E _ fun v S1 H1 g1 i1 => by
    cases i1 with
    | @book p dx n s r rs hp hr =>
    have hl : (bookF n s r).lookup m = none := by
      unfold bookF at hm ⊢
      simp only [List.lookup] at hm ⊢
      cases h1 : (m == ("places" : Str)) with
      | true => rw [h1] at hm; cases hm
      | false =>
        cases h2 : (m == ("size" : Str)) with
        | true => rw [h1, h2] at hm; cases hm
        | false =>
          cases h3 : (m == ("rooms" : Str)) with
          | true => rw [h1, h2, h3] at hm; cases hm
          | false => rfl
    refine ⟨_, _, _, rfl, g1.le _ _ hp, hl, ha σ S1 H1 (E.grow g1) _ fun vs S2 H2 g2 i2 => ?_⟩
    refine ⟨S2, _, d, g2.le, ?_, h, fun v S3 H3 g3 i3 => q v S3 H3 ((g1.trans g2).trans g3) i3⟩
    rw [List.append_nil]
    exact .cons ((Is.book hp hr).mono g2.hs) i2
theorem ev_prop {R : List D → D → Prop} {X : XK} {n s : Int} {rs : List (List Int)} (ho : EvE K C te Γ (.book n s rs)) (h : R [.book n s rs] d) : EvE K C (tProp C (spR K C R) [] X te) Γ d := fun σ S H E Q q =>
  ho σ S H E _ fun v S1 H1 g1 i1 => by
    cases i1 with
    | @book p dx n s r rs hp hr =>
    exact ⟨_, _, _, rfl, g1.le _ _ hp, S1, _, d, g1.le, .cons (.book hp hr) .nil, h, fun v S3 H3 g3 i3 => q v S3 H3 (g1.trans g3) i3⟩
/-- book ^ book -/
theorem rv_own {R : List D → D → Prop} {X : XK} {n s n' s' : Int} {rs rs' : List (List Int)} (h : R [.book n s rs, .book n' s' rs'] d) : RvD K C (NAX.rOwn2 C (spR K C R) X) (.book n s rs) (.book n' s' rs') d := fun S H v w e a b Q q => by
  cases a with
  | book hp hr =>
    cases b with
    | book hp' hr' => exact ⟨_, _, _, _, _, _, rfl, rfl, e _ _ hp, e _ _ hp', S, _, d, e, .cons (.book hp hr) (.cons (.book hp' hr') .nil), h, q⟩
/-- Book(..): what its __init__ promises -/
def spI (K : PySem.W.Frag) (C : Addr) (R : List D → Int → Int → List (List Int) → Prop) : Sp := fun vs H Q _ => ∃ S x dx ws ds n s rs, vs = .ref x :: ws ∧ Same S H ∧ S x = none ∧ H x = some (.ins C dx []) ∧ H dx = some (.own x) ∧ IsL K C S ws ds ∧ R ds n s rs ∧
  ∀ r S' H', Same S S' → Same S' H' → S' x = none → (∀ a o, a ≠ x → H a = some o → H' a = some o) → (∀ a o, S' a = some o → S a = none → H a = none ∨ ∃ xs, o = .tup xs) → H' x = some (.ins C dx (bookF n s r)) → Is K C S' r (trooms rs) → Q .non H'
theorem make_of {R : List D → Int → Int → List (List Int) → Prop} {X : XK} {ws : List V} {S1 H1 : Hp} {n s : Int} {rs : List (List Int)} {x dx : Addr} {Q : VK} (e : Same S1 H1) (i2 : IsL K C S1 ws ds) (h : R ds n s rs) (hx : H1 x = none) (hdx : H1 dx = none) (hne : dx ≠ x)
    (q : ∀ v S' H', Grow S1 H1 S' H' → Is K C S' v (.book n s rs) → Q v H') : spI K C R (.ref x :: ws) (upd (upd H1 dx (.own x)) x (.ins C dx [])) (fun v H2 => v = .non ∧ Q (.ref x) H2) X := by
  have hx' : (upd H1 dx (.own x)) x = none := by rw [upd_ne hne.symm]; exact hx
  have le1 : Same H1 (upd H1 dx (.own x)) := same_upd hdx
  have le2 := le1.trans (same_upd (o := .ins C dx []) hx')
  refine ⟨S1, x, dx, ws, ds, n, s, rs, rfl, e.trans le2, same_free e hx, upd_same, ?_, i2, h, fun r S' H' a1 a2 a3 a4 a5 a6 a7 => ⟨rfl, ?_⟩⟩
  · rw [upd_ne hne, upd_same]
  · refine q _ (upd S' x (.ins C dx (bookF n s r))) H' ⟨a1.trans (same_add a3), Same.add a2 a6, fun a o z => ?_, fun a o z z' => ?_⟩ (.book upd_same (a7.mono (same_add a3)))
    · have hax : a ≠ x := ne_of_none z hx
      exact a4 a o hax (le2 _ _ z)
    · by_cases hax : a = x
      · subst hax; exact .inl hx
      · rw [upd_ne hax] at z
        rcases a5 a o z z' with w | w
        · left
          cases hh : H1 a with
          | none => rfl
          | some u => rw [le2 _ _ hh] at w; cases w
        · exact .inr w
theorem ev_make {R : List D → Int → Int → List (List Int) → Prop} {X : XK} {ta : TA} {n s : Int} {rs : List (List Int)} (ha : EvA K C ta Γ ds) (h : R ds n s rs) : EvE K C (tMake C (spI K C R) [] X ta) Γ (.book n s rs) := fun σ S H E Q q =>
  ha σ S H E _ fun ws S1 H1 g1 i1 x dx hx hdx hne => by
    rw [List.append_nil]
    exact make_of g1.le i1 h hx hdx hne fun v S' H' g i => q v S' H' (g1.trans g) i
theorem ev_makeL {R : List D → Int → Int → List (List Int) → Prop} {X : XK} {ta : TA} {n s : Int} {rs : List (List Int)} {i : Nat} (hi : Γ[i]? = some (.val (.raw (.ref C)))) (ha : EvA K C ta Γ ds) (h : R ds n s rs) : EvE K C (NAX.tMakeL i C (spI K C R) X ta) Γ (.book n s rs) := fun σ S H E Q q => by
  obtain ⟨o, e, v, rfl, iv⟩ := E.ok i _ hi
  rw [iv.raw_inv] at e
  exact ⟨e, ev_make ha h σ S H E Q q⟩
theorem ev_cmeth {R : List D → D → Prop} {X : XK} {ta : TA} (ho : EvE K C te Γ (.raw (.ref C))) (ha : EvA K C ta Γ ds) (h : R (.raw (.ref C) :: ds) d) : EvE K C (ClX.tCMeth C (spR K C R) X te ta) Γ d := fun σ S H E Q q =>
  ho σ S H E _ fun v S1 H1 g1 i1 => ⟨i1.raw_inv, ha σ S1 H1 (E.grow g1) _ fun vs S2 H2 g2 i2 => ⟨S2, _, d, g2.le, .cons (.raw _) i2, h, fun v S3 H3 g3 i3 => q v S3 H3 ((g1.trans g2).trans g3) i3⟩⟩
theorem ev_cval {mc u : Value} {f : Str} {i : Int} (ho : EvE K C te Γ (.raw (.ref C))) (hr : ClX.CRead K C mc) (hv : ClX.CVal K C mc f (.int i) u) : EvE K C (ClX.tCVal K te f) Γ (.int i) := fun σ S H E Q q =>
  ho σ S H E _ fun v S1 H1 g1 i1 => ⟨C, mc, .int i, u, i1.raw_inv, hr, hv, q _ S1 H1 g1 (.int _)⟩
/-! ### a def keeps its promise -/
def Γ0 (N : List Str) (ds : List D) : List Sl := ds.map Sl.val ++ List.replicate (N.length - ds.length) .no
theorem env0 {N : List Str} {vs : List V} (e : Same S H) (l : IsL K C S vs ds) : EnvOk K C S H (L2.start N vs) (Γ0 N ds) := by
  unfold L2.start Γ0
  rw [l.length]
  refine ⟨e, by simp [l.length], fun i s h => ?_, fun i j s t p h1 h2 m1 m2 => ?_⟩
  · rw [List.getElem?_append] at h ⊢
    rw [List.length_map] at h ⊢
    rw [l.length]
    split at h
    · rename_i hi
      rw [if_pos hi]
      rw [List.getElem?_map] at h
      cases hd : ds[i]? with
      | none => rw [hd] at h; cases h
      | some d =>
        rw [hd] at h; cases h
        obtain ⟨v, hv, iv⟩ := l.getD hd
        exact ⟨some v, by rw [List.getElem?_map, hv]; rfl, v, rfl, iv⟩
    · rename_i hi
      rw [if_neg hi]
      rw [List.getElem?_replicate] at h ⊢
      split at h
      · rename_i hj
        cases h
        exact ⟨none, by rw [if_pos hj], trivial⟩
      · cases h
  · rw [List.getElem?_append] at h1
    split at h1
    · rw [List.getElem?_map] at h1
      cases hd : ds[i]? with
      | none => rw [hd] at h1; cases h1
      | some d => rw [hd] at h1; cases h1; cases m1
    · rw [List.getElem?_replicate] at h1
      split at h1 <;> cases h1
      cases m1
theorem Γ0_mut {N : List Str} {i : Nat} {s : Sl} (h : (Γ0 N ds)[i]? = some s) : s.mut = false := by
  unfold Γ0 at h
  rw [List.getElem?_append] at h
  split at h
  · rw [List.getElem?_map] at h
    cases hd : ds[i]? with
    | none => rw [hd] at h; cases h
    | some d => rw [hd] at h; cases h; rfl
  · rw [List.getElem?_replicate] at h
    split at h <;> cases h
    rfl
theorem Env0 {N : List Str} {vs : List V} (e : Same S H) (l : IsL K C S vs ds) : Env K C S H S H (L2.start N vs) (Γ0 N ds) :=
  ⟨Grow.refl e, env0 e l, fun i s p h m => by rw [Γ0_mut h] at m; cases m⟩
theorem fn_ev {P : Program} {w : World} {mg : Str → Option Value} {base : Heap} {x qual : Str} {st : Stmt} {f : Addr} {fd : FuncData} {N ps : List Str} {k : Nat} {R : List D → D → Prop} (F : Fun K x qual st f fd) (S : FnScope N ps (defScope st)) (len : ∀ ds d, R ds d → ds.length = ps.length)
    (body : ∀ ds d, R ds d → ∀ (cdv : Value) (A : Around) (outer : List PySem.Env) (s : Shared) (H : Hp) (E : XK), Room k (A.deeper (envOfC qual (defScope st) s.heap.objs.size f cdv)) →
      ∃ t, PSs (cxOf CX0 P w K mg base N qual (defScope st) f cdv A outer s H E).nox (defBody st) t ∧ ∀ S0 H0, SvE K C S0 H0 t (Γ0 N ds) { rt := fun d' => d' = d, nx := fun _ => d = .non }) : FnOk P w K mg base CX0 (k + 1) f fd ps (spR K C R) := by
  refine F.ok S (fun vs H Q E h => ?_) (fun cdv A outer s H vs Q E hr h => ?_)
  · obtain ⟨S, ds, d, e, l, r, _⟩ := h
    rw [l.length]; exact len ds d r
  · obtain ⟨S, ds, d, e, l, r, q⟩ := h
    obtain ⟨t, h1, h2⟩ := body ds d r cdv A outer s H E hr
    refine ⟨t, h1, h2 S H _ _ S H (Env0 e l) ⟨fun Γ σ S' H' e' _ z => ?_, fun d' v S' H' g i z => ?_, fun _ _ _ _ _ _ z => z.elim, fun _ _ _ _ _ _ z => z.elim⟩⟩
    · have z' : d = .non := z
      subst z'; exact q _ S' H' e'.g .non
    · have z' : d' = d := z
      subst z'; exact q v S' H' g i
end
end NA

set_option Elab.async false
set_option linter.all false
set_option maxRecDepth 100000
set_option maxHeartbeats 4000000
set_option autoImplicit false
namespace NA
open PySem PySem.Spec PyProof.Rows L2

/-- the built-ins' names are not taken -/
structure Bl (mg : Str → Option Value) : Prop where
  len : mg "len" = none
  range : mg "range" = none
  tuple : mg "tuple" = none
  sorted : mg "sorted" = none
  list : mg "list" = none
  set : mg "set" = none
  enumerate : mg "enumerate" = none
  isinstance : mg "isinstance" = none
  bool : mg "bool" = none
  str : mg "str" = none
  abs : mg "abs" = none
  int : mg "int" = none
  max : mg "max" = none
  sum : mg "sum" = none
  comb : mg "comb" = some (.builtin "math.comb")
section
variable {X : Cx}
theorem cr_len : CallR X (.builtin "len") (Evl.rLenS X.K) := call_len_seq
theorem cr_tup : CallR X (.type "tuple") (rTupOf X.K) := call_tuple_of
theorem cr_lst : CallR X (.type "list") (rLstOf X.K) := call_list_of
theorem cr_abs : CallR X (.builtin "abs") rAbs := call_abs
theorem cr_int : CallR X (.type "int") rInt1 := call_int1
theorem cr_max2 (hc : X.calm = true) : CallR X (.builtin "max") rMx2 := call_max2 hc
variable (K : PySem.W.Frag)
theorem kLen (h : X.K = K := by rfl) : CallR X (.builtin "len") (Evl.rLenS K) := h ▸ cr_len
theorem kLst (h : X.K = K := by rfl) : CallR X (.type "list") (rLstOf K) := h ▸ cr_lst
theorem kSlT (h : X.K = K := by rfl) : SlR X (rSlA K) := h ▸ sl_tupA
theorem kCatT (h : X.K = K := by rfl) : OpR X (binaryOp .Add) (rCatA K) := h ▸ op_catA
theorem kInDT (hu : X.A.units + 65 < cLine) (h : X.K = K := by rfl) : OpR X (compareOp .In) (NAX.rInDT K) := h ▸ NAX.op_inDT hu
theorem kNotInDT (hu : X.A.units + 65 < cLine) (h : X.K = K := by rfl) : OpR X (compareOp .NotIn) (NAX.rNotInDT K) := h ▸ NAX.op_notInDT hu
theorem kInD (hu : X.A.units + 65 < cLine) (h : X.K = K := by rfl) : OpR X (compareOp .In) (rInD K) := h ▸ op_inD hu
theorem kNotInD (hu : X.A.units + 65 < cLine) (h : X.K = K := by rfl) : OpR X (compareOp .NotIn) (rNotInD K) := h ▸ op_notInD hu
theorem kIn (h : X.K = K := by rfl) : OpR X (compareOp .In) (rIn K false) := h ▸ op_in_seq
theorem kNotIn (h : X.K = K := by rfl) : OpR X (compareOp .NotIn) (rIn K true) := h ▸ op_notIn_seq
theorem kIxT (h : X.K = K := by rfl) : IxR X (rIxT K) := h ▸ ix_tup
theorem kIxL (h : X.K = K := by rfl) : IxR X (rIxL K) := h ▸ ix_list
theorem kFld {e : Expr} {f : Str} {pos : Pos} {ta : TE} (he : PE X e ta) (hb : attributeBase e f X.env (eval e X.env) = eval e X.env := by rfl) (h : X.K = K := by rfl) : PE X (.Attribute e f pos) (tFld K ta f) := h ▸ pe_fld he hb
theorem ip_mul : PIp X .Mult (rI CMul fun i j => .int (i * j)) := iop_mul
end
structure Def (P : Program) (w : World) (K : PySem.W.Frag) (mg : Str → Option Value) (base : Heap) (CX : CXT) (k : Nat) (x : Str) (ps : List Str) (sp : Sp) : Prop where
  ex : ∃ f fd, FnOk P w K mg base CX k f fd ps sp ∧ mg x = some (.ref f) ∧ PySem.W.keepIn K (.ref f) = true ∧ Binds K fd ps []
/-- .. with a last parameter's default -/
structure DefD (P : Program) (w : World) (K : PySem.W.Frag) (mg : Str → Option Value) (base : Heap) (CX : CXT) (k : Nat) (x : Str) (ps : List Str) (sp : Sp) (d : V) : Prop where
  ex : ∃ f fd u, FnOk P w K mg base CX k f fd ps sp ∧ mg x = some (.ref f) ∧ PySem.W.keepIn K (.ref f) = true ∧ Binds K fd ps [u] ∧ RelV d u
structure MDef (P : Program) (w : World) (K : PySem.W.Frag) (mg : Str → Option Value) (base : Heap) (CX : CXT) (k : Nat) (C : Addr) (m : Str) (ps : List Str) (sp : Sp) : Prop where
  cl : Cls K C
  ex : ∃ f fd, FnOk P w K mg base CX k f fd ps sp ∧ Meth K C m f ∧ Binds K fd ps []
structure PDef (P : Program) (w : World) (K : PySem.W.Frag) (mg : Str → Option Value) (base : Heap) (CX : CXT) (k : Nat) (C : Addr) (m : Str) (ps : List Str) (sp : Sp) : Prop where
  cl : Cls K C
  ex : ∃ p g fd, FnOk P w K mg base CX k g fd ps sp ∧ PropOf K C m p g ∧ Binds K fd ps []
structure KDef (P : Program) (w : World) (K : PySem.W.Frag) (mg : Str → Option Value) (base : Heap) (CX : CXT) (k : Nat) (C : Addr) (x : Str) (ps : List Str) (sp : Sp) : Prop where
  gC : mg x = some (.ref C)
  ex : ∃ f fd, FnOk P w K mg base CX k f fd ps sp ∧ Mk K C f ∧ Binds K fd ps []
structure CDef (P : Program) (w : World) (K : PySem.W.Frag) (mg : Str → Option Value) (base : Heap) (CX : CXT) (k : Nat) (C : Addr) (m : Str) (sp : Sp) : Prop where
  ex : ∃ mc p g, ClX.CRead K C mc ∧ ClX.CMet K C mc m p g ∧ FnR P w K mg base CX k g sp
/-- + of own class -/
structure ODef (P : Program) (w : World) (K : PySem.W.Frag) (mg : Str → Option Value) (base : Heap) (CX : CXT) (k : Nat) (C : Addr) (m : Str) (ps : List Str) (sp : Sp) : Prop where
  sf : PySem.W.selfFirst K C = true
  ex : ∃ f fd, FnOk P w K mg base CX k f fd ps sp ∧ PySem.W.findIn K (.ref C) m = some (some (.ref f)) ∧ PySem.W.isFn K (.ref f) = true ∧ Binds K fd ps []
section
variable {X : Cx} {CX : CXT} {k : Nat} {C : Addr} {x m : Str} {ps : List Str} {sp : Sp} {E : XK} {e o : Expr} {es : List Expr} {t : TA} {ta : TE} {p pos apos : Pos} {pl : Sem Bool} {dv : V}
theorem pe_cd (D : Def X.prog X.w X.K X.mg X.base CX k x ps sp) (hr : Room k X.A) (hg : Gl X x) (hx : Passes CX X E) (ha : PA X (e :: es) t) (hdb : (x == ("__debug__" : Str)) = false := by decide)
    (he : starEach (e :: es) X.env = (false, eval e X.env) :: starEach es X.env := by rfl) (hpl : (backTo pos (starEach es X.env)).any (·.1) = false := by rfl) : PE X (.Call (.Name x p) (e :: es) [] pos) (tCall sp [] E t) := by
  obtain ⟨f, fd, F, g, kp, b⟩ := D.ex
  exact pe_call F hr hg g kp b .nil hx ha hdb he hpl
theorem pe_cdd (D : DefD X.prog X.w X.K X.mg X.base CX k x ps sp dv) (hr : Room k X.A) (hg : Gl X x) (hx : Passes CX X E) (ha : PA X (e :: es) t) (hdb : (x == ("__debug__" : Str)) = false := by decide)
    (he : starEach (e :: es) X.env = (false, eval e X.env) :: starEach es X.env := by rfl) (hpl : (backTo pos (starEach es X.env)).any (·.1) = false := by rfl) : PE X (.Call (.Name x p) (e :: es) [] pos) (tCall sp [dv] E t) := by
  obtain ⟨f, fd, u, F, g, kp, b, r⟩ := D.ex
  exact pe_call F hr hg g kp b (.cons r .nil) hx ha hdb he hpl
theorem pe_md0 (D : MDef X.prog X.w X.K X.mg X.base CX k C m ps sp) (hr : Room k X.A) (hx : Passes CX X E) (he : PE X o ta)
    (ht : eval (.Call (.Attribute o m apos) [] [] pos) X.env = (do
      let ov ← eval o X.env
      standAt apos.atName
      let (f, first) ← holding [ov] (getMethod ov m pl)
      callWith pos f first (backTo pos (starEach [] X.env)) (backToKw pos (keywordEach [] X.env))) := by rfl) : PE X (.Call (.Attribute o m apos) [] [] pos) (tMeth C m sp [] E ta tNil) := by
  obtain ⟨f, fd, F, g, b⟩ := D.ex
  exact pe_meth0 he D.cl g F hr b .nil hx ht
theorem pe_pd (D : PDef X.prog X.w X.K X.mg X.base CX k C m ps sp) (hr : Room (k + 1) X.A) (hx : Passes CX X.nox E) (he : PE X e ta) (hab : attributeBase e m X.env (eval e X.env) = eval e X.env := by rfl) : PE X (.Attribute e m pos) (tProp C sp [] E ta) := by
  obtain ⟨p, g, fd, F, h, b⟩ := D.ex
  exact pe_prop he D.cl h F hr b .nil hx hab
theorem pe_kd (D : KDef X.prog X.w X.K X.mg X.base CX k C x ps sp) (hr : Room (k + 1) X.A) (hg : Gl X x) (hx : Passes CX X E) (ha : PA X (e :: es) t) (hdb : (x == ("__debug__" : Str)) = false := by decide)
    (he : starEach (e :: es) X.env = (false, eval e X.env) :: starEach es X.env := by rfl) (hpl : (backTo pos (starEach es X.env)).any (·.1) = false := by rfl) : PE X (.Call (.Name x p) (e :: es) [] pos) (tMake C sp [] E t) := by
  obtain ⟨f, fd, F, M, b⟩ := D.ex
  exact pe_make M F hr hg D.gC b .nil hx ha hdb he hpl
theorem pe_kdL {y : Str} {i : Nat} (D : KDef X.prog X.w X.K X.mg X.base CX k C y ps sp) (hr : Room (k + 1) X.A) (hx : Passes CX X E) (ha : PA X (e :: es) t)
    (hN : X.N[i]? = some x) (hv : Vis X.env.scope x) (hdb : (x == ("__debug__" : Str)) = false := by decide) (hcd : (x == ("__classdict__" : Str)) = false := by decide)
    (he : starEach (e :: es) X.env = (false, eval e X.env) :: starEach es X.env := by rfl) (hpl : (backTo pos (starEach es X.env)).any (·.1) = false := by rfl) : PE X (.Call (.Name x p) (e :: es) [] pos) (NAX.tMakeL i C sp E t) := by
  obtain ⟨f, fd, F, M, b⟩ := D.ex
  exact NAX.pe_makeL M F hr b hx ha hN hv hdb hcd he hpl
theorem pe_clsd (D : CDef X.prog X.w X.K X.mg X.base CX k C m sp) (hr : Room k X.A) (hx : Passes CX X E) (he : PE X o ta) (ha : PA X (e :: es) t)
    (hst : starEach (e :: es) X.env = (false, eval e X.env) :: starEach es X.env := by rfl) (hpl : (backTo pos (starEach es X.env)).any (·.1) = false := by rfl)
    (ht : eval (.Call (.Attribute o m apos) (e :: es) [] pos) X.env = (do
      let ov ← eval o X.env
      standAt apos.atName
      let (f, first) ← holding [ov] (getMethod ov m pl)
      callWith pos f first (backTo pos (starEach (e :: es) X.env)) (backToKw pos (keywordEach [] X.env))) := by rfl) : PE X (.Call (.Attribute o m apos) (e :: es) [] pos) (ClX.tCMeth C sp E ta t) := by
  obtain ⟨mc, p, g, r, c, F⟩ := D.ex
  exact ClX.pe_cmeth he r c F hr hx ha hst hpl ht
theorem op_od {op : Operator} (D : ODef X.prog X.w X.K X.mg X.base CX k C (PySem.dunder op.info.2) ps sp) (hr : Room k X.A) (hx : Passes CX X E) : OpR X (binaryOp op) (NAX.rOwn2 C sp E) := by
  obtain ⟨f, fd, F, g, h, b⟩ := D.ex
  exact NAX.op_own2 D.sf g h F hr b hx
end
theorem hu65_of {k : Nat} {A : Around} (hr : Room k A) : A.units + 65 < cLine := by have := hr.un; omega
/-! ### the text -/
def topS (i : Nat) : Stmt := PySem.Challenge.pw_neveralone_k52_whole_every_even_book_by.main.body.getD i (.Pass ⟨0, 0, 0, 0⟩)
end NA

set_option Elab.async false
set_option linter.all false
set_option maxRecDepth 100000
set_option maxHeartbeats 4000000
set_option autoImplicit false
namespace NA
open PySem PySem.Spec PyProof.Rows L2
theorem sIx_i (n d : Nat) (i : Int) (h : 0 ≤ i) : HT.sIx n d (some i) = min i.toNat n := by
  obtain ⟨k, rfl⟩ := Int.eq_ofNat_of_zero_le h
  exact HT.sIx_nat n d k
theorem cut_take (r : List Int) (i : Nat) (hi : i ≤ r.length) : cutD (r.map D.int) none (some (i : Int)) = (r.take i).map D.int := by
  unfold cutD
  rw [HT.sIx_none, HT.sIx_nat, List.length_map, List.drop_zero, Nat.sub_zero, Nat.min_eq_left hi, List.map_take]
theorem cut_drop (r : List Int) (z : Int) (i : Nat) (hz : z = (i : Int)) (hi : i ≤ r.length) : cutD (r.map D.int) (some z) none = (r.drop i).map D.int := by
  subst hz
  unfold cutD
  rw [HT.sIx_none, HT.sIx_nat, List.length_map, Nat.min_eq_left hi, List.map_drop]
  rw [List.take_of_length_le]
  simp
theorem erase_eq (r : List Int) (i : Nat) : (r.take i).map D.int ++ (r.drop (i + 1)).map D.int = (r.eraseIdx i).map D.int := by
  rw [List.eraseIdx_eq_take_drop_succ, List.map_append]
def facesF (r : List Int) : List (List Int) := (List.range r.length).map fun i => r.eraseIdx i
section
variable {P : Program} {w : World} {K : PySem.W.Frag} {mg : Str → Option Value} {base : Heap} {C : Addr}
abbrev sFaces : Stmt := topS 8
abbrev nFaces : List Str := ["room", "k"]
theorem scFaces : FnScope nFaces ["room"] (defScope sFaces) := ⟨rfl, rfl, rfl, by decide +kernel, rfl, by decide +kernel, by decide +kernel⟩
def rFaces : List D → D → Prop := fun ds d => ∃ r : List Int, ds = [room r] ∧ r.length ≤ 12 ∧ d = rooms (facesF r)
theorem ok_faces {k : Nat} {f : Addr} {fd : FuncData} (F : Fun K "faces" "faces" sFaces f fd) (B : Bl mg) : FnOk P w K mg base CX0 (k + 1) f fd ["room"] (spR K C rFaces) := by
  refine fn_ev F scFaces (fun ds d h => by obtain ⟨r, rfl, _⟩ := h; rfl) (fun ds d h cdv A outer s H E hr => ?_)
  obtain ⟨r, rfl, hl, rfl⟩ := h
  refine ⟨_, (pss_one (ps_ret (pe_lc (own := [("k", 1)]) (g := gName 1) (tt := tYes) (by rfl) scFaces.nd (pi_range1 (by rfl) B.range (pa_cons (pe_callB (kLen K) (by rfl) B.len (by decide +kernel) (pa_cons (pv 0) pa_nil)) pa_nil)) (blkOk_by (own := [("k", 1)]) (N := nFaces) (sc := defScope sFaces) (by decide +kernel)) (fun _ _ _ _ _ => (pg_name (i := 1) scFaces.nd rfl (.inl rfl))) (fun _ _ _ _ _ => pts_nil) (fun _ _ _ _ _ => (pe_op (kCatT K) (pe_slice (kSlT K) (pv 0) po_none (po_some (pv 1))) (pe_slice (kSlT K) (pv 0) (po_some (pe_op op_add (pv 1) pe_int)) po_none)))))), fun S0 H0 => ?_⟩
  refine sv_ret (ev_is (ev_lcR (n := (r.length : Int)) (fun _ => true) (fun d => match d with | .int i => room (r.eraseIdx i.toNat) | _ => .non) (ea_cons (ev_is (ev_cb (ea_cons (ev_var rfl) ea_nil) rc_lenT) ?_) ea_nil) (by omega) (fun i hi => ?_)) ?_) rfl
  · rw [List.length_map]
  · refine cstep_name (by simp) et_yes (fun _ => ?_)
    refine ev_is (ev_op (ev_slT (ev_var rfl) eo_none (eo_some (ev_var rfl))) (ev_slT (ev_var rfl) (eo_some (ev_op (ev_var rfl) ev_int rv_I0)) eo_none) (rv_catT ?_)) ?_
    · rw [cut_take r i (by omega), cut_drop r _ (i + 1) (by omega) (by omega)]; simp; omega
    · show D.tup _ = D.tup _
      rw [cut_take r i (by omega), cut_drop r _ (i + 1) (by omega) (by omega), erase_eq]; rfl
  · show D.lst _ = D.lst _
    unfold lcRes upTo facesF
    rw [Int.toNat_natCast, List.filter_eq_self.mpr (fun _ _ => rfl), List.map_map, List.map_map]
    exact congrArg _ (List.map_congr_left fun i _ => rfl)
end
end NA

set_option Elab.async false
set_option linter.all false
set_option maxRecDepth 100000
set_option maxHeartbeats 4000000
set_option autoImplicit false
namespace NA
open PySem PySem.Spec PyProof.Rows L2
/-! ### sorting -/
def insI (x : Int) : List Int → List Int
  | [] => [x]
  | y :: r => if x ≤ y then x :: y :: r else y :: insI x r
def isort (r : List Int) : List Int := r.foldr insI []
theorem insI_perm (x : Int) : ∀ r, (insI x r).Perm (x :: r)
  | [] => .refl _
  | y :: r => by
    unfold insI
    split
    · exact .refl _
    · exact ((insI_perm x r).cons y).trans (.swap x y r)
theorem isort_perm : ∀ r, (isort r).Perm r
  | [] => .refl _
  | x :: r => (insI_perm x (isort r)).trans ((isort_perm r).cons x)
theorem insI_sorted (x : Int) : ∀ r : List Int, r.Pairwise (· ≤ ·) → (insI x r).Pairwise (· ≤ ·)
  | [], _ => by simp [insI]
  | y :: r, h => by
    obtain ⟨h1, h2⟩ := List.pairwise_cons.mp h
    unfold insI
    split
    · rename_i hx
      refine List.pairwise_cons.mpr ⟨fun z hz => ?_, h⟩
      rcases List.mem_cons.mp hz with rfl | hz
      · exact hx
      · exact Int.le_trans hx (h1 z hz)
    · rename_i hx
      refine List.pairwise_cons.mpr ⟨fun z hz => ?_, insI_sorted x r h2⟩
      rcases List.mem_cons.mp ((insI_perm x r).mem_iff.mp hz) with rfl | hz
      · omega
      · exact h1 z hz
theorem isort_sorted : ∀ r, (isort r).Pairwise (· ≤ ·)
  | [] => .nil
  | x :: r => insI_sorted x _ (isort_sorted r)
theorem sorted_uniq {a b : List Int} (p : a.Perm b) (h1 : a.Pairwise (· ≤ ·)) (h2 : b.Pairwise (· ≤ ·)) : a = b :=
  List.Perm.eq_of_pairwise (fun x y _ _ h h' => Int.le_antisymm h h') h1 h2 p
theorem isort_eq {a b : List Int} (p : b.Perm a) (h : b.Pairwise (· ≤ ·)) : isort a = b := sorted_uniq ((isort_perm a).trans p.symm) (isort_sorted a) h
theorem isort_length (r : List Int) : (isort r).length = r.length := (isort_perm r).length_eq
section
variable {K : PySem.W.Frag} {C : Addr}
theorem rc_sortL {ns : List Int} (h : ns.length < 64) : RcD K C (rSorted K) [.lst (ns.map D.int)] (.lst ((isort ns).map D.int)) := fun S H vs e a Q q => by
  cases a with
  | cons h1 t =>
    cases t
    obtain ⟨p, vs, rfl, h1, l1, n1⟩ := h1.lst_inv
    rw [l1.ints] at h1
    refine ⟨p, ns, rfl, .of (e _ _ h1), h, fun ns' x p1 p2 hx => ?_⟩
    rw [isort_eq p1 p2] at q
    exact q _ _ _ (Grow.new e hx) (.lst upd_same (isL_ints _) (by rw [List.length_map, p1.length_eq]; omega))
theorem rc_sortT {ns : List Int} (h : ns.length ≤ 1000) : RcD K C (NAX.rSortTI K) [room ns] (.lst ((isort ns).map D.int)) := fun S H vs e a Q q => by
  cases a with
  | cons h1 t =>
    cases t
    obtain ⟨p, rfl, h1, n1⟩ := h1.room_inv
    refine ⟨p, ns, rfl, .of (e _ _ h1), fun ns' x p1 p2 hx => ?_⟩
    rw [isort_eq p1 p2] at q
    exact q _ _ _ (Grow.new e hx) (.lst upd_same (isL_ints _) (by rw [List.length_map, p1.length_eq]; omega))
end
/-! ### subsets -/
def subsF : List Int → Nat → List (List Int)
  | _, 0 => [[]]
  | [], _ + 1 => []
  | x :: xs, s + 1 => (subsF xs s).map (x :: ·) ++ subsF xs (s + 1)
theorem subsF_short : ∀ (xs : List Int) (s : Nat), xs.length < s → subsF xs s = []
  | [], s + 1, _ => by simp [subsF]
  | x :: xs, s + 1, h => by
    simp only [subsF]
    rw [subsF_short xs s (by simp at h; omega), subsF_short xs (s + 1) (by simp at h; omega)]
    rfl
theorem subsF_len : ∀ (xs : List Int) (s : Nat), (subsF xs s).length ≤ 2 ^ xs.length
  | _, 0 => by simp only [subsF]; exact Nat.one_le_two_pow
  | [], s + 1 => by simp [subsF]
  | x :: xs, s + 1 => by
    simp only [subsF, List.length_append, List.length_map, List.length_cons]
    have h1 := subsF_len xs s
    have h2 := subsF_len xs (s + 1)
    rw [Nat.pow_succ]; omega
theorem subsF_mem : ∀ (xs : List Int) (s : Nat) (r : List Int), r ∈ subsF xs s → r.length = s ∧ ∀ i ∈ r, i ∈ xs
  | _, 0, r, h => by simp [subsF] at h; subst h; simp
  | [], s + 1, r, h => by simp [subsF] at h
  | x :: xs, s + 1, r, h => by
    simp only [subsF, List.mem_append, List.mem_map] at h
    rcases h with ⟨q, hq, rfl⟩ | h
    · obtain ⟨h1, h2⟩ := subsF_mem xs s q hq
      exact ⟨by simp [h1], fun i hi => by
        rcases List.mem_cons.mp hi with rfl | hi
        · simp
        · exact List.mem_cons_of_mem _ (h2 i hi)⟩
    · obtain ⟨h1, h2⟩ := subsF_mem xs (s + 1) r h
      exact ⟨h1, fun i hi => List.mem_cons_of_mem _ (h2 i hi)⟩
/-- what the first i turns have found -/
def preF (xs : List Int) (s i : Nat) : List (List Int) := (List.range i).flatMap fun k => (subsF (xs.drop (k + 1)) s).map (xs.getD k 0 :: ·)
theorem preF_succ (xs : List Int) (s i : Nat) : preF xs s (i + 1) = preF xs s i ++ (subsF (xs.drop (i + 1)) s).map (xs.getD i 0 :: ·) := by
  unfold preF
  rw [List.range_succ, List.flatMap_append]; simp
theorem preF_all (xs : List Int) (s : Nat) : ∀ i, i ≤ xs.length → preF xs s i ++ subsF (xs.drop i) (s + 1) = subsF xs (s + 1)
  | 0, _ => by simp [preF]
  | i + 1, h => by
    have ih := preF_all xs s i (by omega)
    rw [preF_succ, List.append_assoc, ← ih]
    congr 1
    have hx : i < xs.length := h
    rw [List.drop_eq_getElem_cons hx]
    simp only [subsF]
    rw [List.getD_eq_getElem?_getD, List.getElem?_eq_getElem hx]; rfl
theorem preF_le (xs : List Int) (s i : Nat) (h : i ≤ xs.length) : (preF xs s i).length ≤ 2 ^ xs.length := by
  have h1 := congrArg List.length (preF_all xs s i h)
  rw [List.length_append] at h1
  have h2 := subsF_len xs (s + 1)
  omega
theorem preF_end (xs : List Int) (s i : Nat) (h : i ≤ xs.length) (h2 : xs.length < i + (s + 1)) : preF xs s i = subsF xs (s + 1) := by
  have h1 := preF_all xs s i h
  rw [subsF_short (xs.drop i) (s + 1) (by simp; omega), List.append_nil] at h1
  exact h1
abbrev sMerged : Stmt := topS 9
abbrev nMerged : List Str := ["first", "second"]
theorem scMerged : FnScope nMerged ["first", "second"] (defScope sMerged) := ⟨rfl, rfl, rfl, by decide +kernel, rfl, by decide +kernel, by decide +kernel⟩
abbrev sSubsets : Stmt := topS 10
abbrev nSubsets : List Str := ["items", "size", "found", "k", "rest"]
theorem scSubsets : FnScope nSubsets ["items", "size"] (defScope sSubsets) := ⟨rfl, rfl, rfl, by decide +kernel, rfl, by decide +kernel, by decide +kernel⟩
abbrev sLawRooms : Stmt := topS 37
abbrev nLawRooms : List Str := ["_law_items", "_law_size", "_law_found", "_law_k", "_law_rest"]
theorem scLawRooms : FnScope nLawRooms ["_law_items", "_law_size"] (defScope sLawRooms) := ⟨rfl, rfl, rfl, by decide +kernel, rfl, by decide +kernel, by decide +kernel⟩
abbrev sRoomFault : Stmt := topS 12
abbrev nRoomFault : List Str := ["places", "size", "room", "p"]
theorem scRoomFault : FnScope nRoomFault ["places", "size", "room"] (defScope sRoomFault) := ⟨rfl, rfl, rfl, by decide +kernel, rfl, by decide +kernel, by decide +kernel⟩
def rMerged : List D → D → Prop := fun ds d => ∃ r q : List Int, ds = [room r, room q] ∧ r.length + q.length ≤ 12 ∧ d = room (isort (r ++ q))
def rSubs (m : Nat) : List D → D → Prop := fun ds d => ∃ (xs : List Int) (s : Nat), ds = [room xs, .int (s : Int)] ∧ xs.length ≤ 6 ∧ s ≤ m ∧ s ≤ 6 ∧ d = rooms (subsF xs s)
theorem map_append1 (l : List (List Int)) (x : List Int) : l.map room ++ [room x] = (l ++ [x]).map room := by rw [List.map_append]; rfl
section
variable {P : Program} {w : World} {K : PySem.W.Frag} {mg : Str → Option Value} {base : Heap} {C : Addr}
theorem ok_merged {k : Nat} {f : Addr} {fd : FuncData} (F : Fun K "merged" "merged" sMerged f fd) (B : Bl mg) : FnOk P w K mg base CX0 (k + 1) f fd ["first", "second"] (spR K C rMerged) := by
  refine fn_ev F scMerged (fun ds d h => by obtain ⟨r, q, rfl, _⟩ := h; rfl) (fun ds d h cdv A outer s H E hr => ?_)
  obtain ⟨r, q, rfl, hl, rfl⟩ := h
  refine ⟨_, (pss_one (ps_ret (pe_callTy cr_tup (by rfl) B.tuple (by decide +kernel) (pa_cons (pe_callB cr_sorted (by rfl) B.sorted (by decide +kernel) (pa_cons (pe_op op_cat (pe_callTy (kLst K) (by rfl) B.list (by decide +kernel) (pa_cons (pv 0) pa_nil)) (pe_callTy (kLst K) (by rfl) B.list (by decide +kernel) (pa_cons (pv 1) pa_nil))) pa_nil)) pa_nil)))), fun S0 H0 => ?_⟩
  refine sv_ret (ev_cb (ea_cons (ev_cb (ea_cons (ev_is (ev_op (ev_cb (ea_cons (ev_var rfl) ea_nil) rc_lstT) (ev_cb (ea_cons (ev_var rfl) ea_nil) rc_lstT) (rv_catL ?_)) ?_) ea_nil) (rc_sortL (ns := r ++ q) ?_)) ea_nil) rc_tupL) rfl
  · rw [List.length_map, List.length_map]; omega
  · rw [← List.map_append]
  · rw [List.length_append]; omega
theorem fn_false {k : Nat} {f : Addr} {fd : FuncData} {ps : List Str} {CX : CXT} : FnOk P w K mg base CX k f fd ps (spR K C fun _ _ => False) :=
  ⟨fun vs H Q E h => by obtain ⟨_, _, _, _, _, z, _⟩ := h; exact z.elim, fun _ _ _ _ _ _ _ _ _ _ _ _ _ h => by obtain ⟨_, _, _, _, _, z, _⟩ := h; exact z.elim⟩
theorem ok_subsets_step {k m : Nat} {R' : List D → D → Prop} {f : Addr} {fd : FuncData} (F : Fun K "subsets" "subsets" sSubsets f fd) (B : Bl mg) (D_subsets : Def P w K mg base CX0 k "subsets" ["items", "size"] (spR K C R'))
    (hR : ∀ (xs : List Int) (s : Nat), s + 1 ≤ m → xs.length ≤ 6 → s ≤ 6 → R' [room xs, .int (s : Int)] (rooms (subsF xs s))) : FnOk P w K mg base CX0 (k + 1) f fd ["items", "size"] (spR K C (rSubs m)) := by
  refine fn_ev F scSubsets (fun ds d h => by obtain ⟨xs, s, rfl, _⟩ := h; rfl) (fun ds d h cdv A outer st H E hr => ?_)
  obtain ⟨xs, s, rfl, hl, hm, hs6, rfl⟩ := h
  refine ⟨_, (pss_cons (ps_if (pt_cmpR op_eq (pv 1) pe_int (nomark _)) (pss_one (ps_ret (pe_lst (pa_cons (pe_tup pa_nil) pa_nil)))) pss_nil)
      (pss_cons (ps_set (i := 2) scSubsets.nd rfl (.inl rfl) (pe_lst pa_nil))
      (pss_cons (ps_for PassesOwn.never (by rfl) (pi_range1 (by rfl) B.range (pa_cons (pe_op op_add (pe_op op_sub (pe_callB (kLen K) (by rfl) B.len (by decide +kernel) (pa_cons (pv 0) pa_nil)) (pv 1)) pe_int) pa_nil)) (pg_name (i := 3) scSubsets.nd rfl (.inl rfl))
       (pss_one (ps_for PassesOwn.never (by rfl) (pi_list (pe_cd D_subsets (hr.mono (by omega)) (by rfl) pass0 (pa_cons (pe_slice (kSlT K) (pv 0) (po_some (pe_op op_add (pv 3) pe_int)) po_none) (pa_cons (pe_op op_sub (pv 1) pe_int) pa_nil)))) (pg_name (i := 4) scSubsets.nd rfl (.inl rfl))
        (pss_one (ps_expr (pe_bm PySem.F.plainAttrs_list PySem.F.slot_list_append PySem.F.type_list_append mt_append (pv 2) (pa_cons (pe_op (kCatT K) (pe_tup (pa_cons (pe_ix (kIxT K) (pv 0) (pv 3) (fun _ _ => rfl)) pa_nil)) (pv 4)) pa_nil)))))))
      (pss_one (ps_ret (pv 2)))))), fun S0 H0 => ?_⟩
  refine sv_seq (sv_if (et_test (ev_op (ev_var rfl) ev_int rv_eqI)) (fun h0 => ?_) (fun h0 => ?_))
  · have h1 : s = 0 := by have := of_decide_eq_true h0; omega
    subst h1
    refine sv_ret (ev_is (ev_lst (ea_cons (ev_tup ea_nil (by decide)) ea_nil) (by simp)) ?_) rfl
    simp [subsF]
  · have h1 : s ≠ 0 := by have := of_decide_eq_false h0; omega
    obtain ⟨s, rfl⟩ : ∃ t, s = t + 1 := ⟨s - 1, by omega⟩
    refine sv_next ?_
    refine sv_seq (sv_lnew ea_nil (by simp) ?_)
    refine sv_seq (sv_forR (n := (xs.length : Int) - ((s + 1 : Nat) : Int) + 1) (fun i Γ => ∃ s3 s4, i ≤ xs.length ∧ Γ = [.val (room xs), .val (.int ((s + 1 : Nat) : Int)), .ml ((preF xs s i).map room), s3, s4]) (ea_cons (ev_op (ev_op (ev_is (ev_cb (ea_cons (ev_var rfl) ea_nil) rc_lenT) ?_) (ev_var rfl) rv_I0) ev_int rv_I0) ea_nil) (by omega) ⟨_, _, Nat.zero_le _, rfl⟩ (fun i Γ1 hi hI => ?_) (fun Γ1 hI => ?_))
    · rw [List.length_map]
    · obtain ⟨s3, s4, _, rfl⟩ := hI
      have hlt : i < xs.length := by omega
      have b1 : (preF xs s (i + 1)).length ≤ 64 := Nat.le_trans (preF_le xs s (i + 1) hlt) (Nat.pow_le_pow_right (by decide) hl)
      have b0 : (preF xs s i).length + (subsF (xs.drop (i + 1)) s).length = (preF xs s (i + 1)).length := by rw [preF_succ]; simp
      refine step_name ?_
      refine sv_forL (ds := (subsF (xs.drop (i + 1)) s).map room) (fun j Γ => ∃ s4, Γ = [.val (room xs), .val (.int ((s + 1 : Nat) : Int)), .ml ((preF xs s i ++ ((subsF (xs.drop (i + 1)) s).take j).map (xs.getD i 0 :: ·)).map room), .val (.int (i : Int)), s4])
        (ev_call0 (ea_cons (ev_is (ev_slT (ev_var rfl) (eo_some (ev_op (ev_var rfl) ev_int rv_I0)) eo_none) ?_) (ea_cons (ev_is (ev_op (ev_var rfl) ev_int rv_I0) ?_) ea_nil)) (hR (xs.drop (i + 1)) s hm (by simp; omega) (by omega)))
        ⟨s4, by simp⟩ (fun j d Γ1 hd hI => ?_) (fun Γ1 hI => ?_)
      · exact congrArg D.tup (cut_drop xs _ (i + 1) (by omega) (by omega))
      · exact congrArg D.int (by omega)
      · obtain ⟨s4, rfl⟩ := hI
        obtain ⟨rest, hrest, rfl⟩ : ∃ rest, (subsF (xs.drop (i + 1)) s)[j]? = some rest ∧ d = room rest := by
          rw [List.getElem?_map] at hd
          cases e : (subsF (xs.drop (i + 1)) s)[j]? with
          | none => rw [e] at hd; cases hd
          | some z => rw [e] at hd; cases hd; exact ⟨z, rfl, rfl⟩
        have hj := (List.getElem?_eq_some_iff.mp hrest).1
        have hm2 := subsF_mem _ _ _ (List.mem_of_getElem? hrest)
        refine step_name (sv_append (d := room (xs.getD i 0 :: rest)) rfl (ev_is (ev_op (ev_tup (ea_cons (ev_op (ev_var rfl) (ev_var rfl) (rv_ixT (j := i) rfl (d := .int (xs.getD i 0)) ?_)) ea_nil) (by simp)) (ev_var rfl) (rv_catT ?_)) ?_) ?_ ⟨.val (room rest), ?_⟩)
        · rw [List.getElem?_map, List.getElem?_eq_getElem hlt, List.getD_eq_getElem?_getD, List.getElem?_eq_getElem hlt]; rfl
        · simp [hm2.1]; omega
        · rfl
        · simp; omega
        · rw [take_snoc hrest]; simp
      · obtain ⟨s4, rfl⟩ := hI
        refine ⟨.val (.int (i : Int)), s4, hlt, ?_⟩
        rw [List.length_map, List.take_length, preF_succ]
    · obtain ⟨s3, s4, hle, rfl⟩ := hI
      refine sv_freezeL (i := 2) rfl (sv_ret (ev_var rfl) ?_)
      show D.lst _ = D.lst _
      by_cases hx : xs.length < s + 1
      · have e0 : ((xs.length : Int) - ((s + 1 : Nat) : Int) + 1).toNat = 0 := by omega
        rw [e0, subsF_short xs (s + 1) hx]; rfl
      · rw [preF_end xs s _ hle (by omega)]
theorem ok_subsets {f : Addr} {fd : FuncData} (F : Fun K "subsets" "subsets" sSubsets f fd) (B : Bl mg) (g : mg "subsets" = some (.ref f)) (kp : PySem.W.keepIn K (.ref f) = true) (b : Binds K fd ["items", "size"] []) : ∀ m : Nat, FnOk P w K mg base CX0 (m + 1) f fd ["items", "size"] (spR K C (rSubs m))
  | 0 => ok_subsets_step F B ⟨f, fd, fn_false, g, kp, b⟩ (fun xs s h _ _ => by omega)
  | m + 1 => ok_subsets_step F B ⟨f, fd, ok_subsets F B g kp b m, g, kp, b⟩ (fun xs s h h1 h2 => ⟨xs, s, rfl, h1, by omega, h2, rfl⟩)

theorem ok_law_rooms_step {k m : Nat} {R' : List D → D → Prop} {f : Addr} {fd : FuncData} (F : Fun K "_law_rooms" "_law_rooms" sLawRooms f fd) (B : Bl mg) (D_law_rooms : Def P w K mg base CX0 k "_law_rooms" ["_law_items", "_law_size"] (spR K C R'))
    (hR : ∀ (xs : List Int) (s : Nat), s + 1 ≤ m → xs.length ≤ 6 → s ≤ 6 → R' [room xs, .int (s : Int)] (rooms (subsF xs s))) : FnOk P w K mg base CX0 (k + 1) f fd ["_law_items", "_law_size"] (spR K C (rSubs m)) := by
  refine fn_ev F scLawRooms (fun ds d h => by obtain ⟨xs, s, rfl, _⟩ := h; rfl) (fun ds d h cdv A outer st H E hr => ?_)
  obtain ⟨xs, s, rfl, hl, hm, hs6, rfl⟩ := h
  refine ⟨_, (pss_cons (ps_if (pt_cmpR op_eq (pv 1) pe_int (nomark _)) (pss_one (ps_ret (pe_lst (pa_cons (pe_tup pa_nil) pa_nil)))) pss_nil)
      (pss_cons (ps_set (i := 2) scLawRooms.nd rfl (.inl rfl) (pe_lst pa_nil))
      (pss_cons (ps_for PassesOwn.never (by rfl) (pi_range1 (by rfl) B.range (pa_cons (pe_op op_add (pe_op op_sub (pe_callB (kLen K) (by rfl) B.len (by decide +kernel) (pa_cons (pv 0) pa_nil)) (pv 1)) pe_int) pa_nil)) (pg_name (i := 3) scLawRooms.nd rfl (.inl rfl))
       (pss_one (ps_for PassesOwn.never (by rfl) (pi_list (pe_cd D_law_rooms (hr.mono (by omega)) (by rfl) pass0 (pa_cons (pe_slice (kSlT K) (pv 0) (po_some (pe_op op_add (pv 3) pe_int)) po_none) (pa_cons (pe_op op_sub (pv 1) pe_int) pa_nil)))) (pg_name (i := 4) scLawRooms.nd rfl (.inl rfl))
        (pss_one (ps_expr (pe_bm PySem.F.plainAttrs_list PySem.F.slot_list_append PySem.F.type_list_append mt_append (pv 2) (pa_cons (pe_op (kCatT K) (pe_tup (pa_cons (pe_ix (kIxT K) (pv 0) (pv 3) (fun _ _ => rfl)) pa_nil)) (pv 4)) pa_nil)))))))
      (pss_one (ps_ret (pv 2)))))), fun S0 H0 => ?_⟩
  refine sv_seq (sv_if (et_test (ev_op (ev_var rfl) ev_int rv_eqI)) (fun h0 => ?_) (fun h0 => ?_))
  · have h1 : s = 0 := by have := of_decide_eq_true h0; omega
    subst h1
    refine sv_ret (ev_is (ev_lst (ea_cons (ev_tup ea_nil (by decide)) ea_nil) (by simp)) ?_) rfl
    simp [subsF]
  · have h1 : s ≠ 0 := by have := of_decide_eq_false h0; omega
    obtain ⟨s, rfl⟩ : ∃ t, s = t + 1 := ⟨s - 1, by omega⟩
    refine sv_next ?_
    refine sv_seq (sv_lnew ea_nil (by simp) ?_)
    refine sv_seq (sv_forR (n := (xs.length : Int) - ((s + 1 : Nat) : Int) + 1) (fun i Γ => ∃ s3 s4, i ≤ xs.length ∧ Γ = [.val (room xs), .val (.int ((s + 1 : Nat) : Int)), .ml ((preF xs s i).map room), s3, s4]) (ea_cons (ev_op (ev_op (ev_is (ev_cb (ea_cons (ev_var rfl) ea_nil) rc_lenT) ?_) (ev_var rfl) rv_I0) ev_int rv_I0) ea_nil) (by omega) ⟨_, _, Nat.zero_le _, rfl⟩ (fun i Γ1 hi hI => ?_) (fun Γ1 hI => ?_))
    · rw [List.length_map]
    · obtain ⟨s3, s4, _, rfl⟩ := hI
      have hlt : i < xs.length := by omega
      have b1 : (preF xs s (i + 1)).length ≤ 64 := Nat.le_trans (preF_le xs s (i + 1) hlt) (Nat.pow_le_pow_right (by decide) hl)
      have b0 : (preF xs s i).length + (subsF (xs.drop (i + 1)) s).length = (preF xs s (i + 1)).length := by rw [preF_succ]; simp
      refine step_name ?_
      refine sv_forL (ds := (subsF (xs.drop (i + 1)) s).map room) (fun j Γ => ∃ s4, Γ = [.val (room xs), .val (.int ((s + 1 : Nat) : Int)), .ml ((preF xs s i ++ ((subsF (xs.drop (i + 1)) s).take j).map (xs.getD i 0 :: ·)).map room), .val (.int (i : Int)), s4])
        (ev_call0 (ea_cons (ev_is (ev_slT (ev_var rfl) (eo_some (ev_op (ev_var rfl) ev_int rv_I0)) eo_none) ?_) (ea_cons (ev_is (ev_op (ev_var rfl) ev_int rv_I0) ?_) ea_nil)) (hR (xs.drop (i + 1)) s hm (by simp; omega) (by omega)))
        ⟨s4, by simp⟩ (fun j d Γ1 hd hI => ?_) (fun Γ1 hI => ?_)
      · exact congrArg D.tup (cut_drop xs _ (i + 1) (by omega) (by omega))
      · exact congrArg D.int (by omega)
      · obtain ⟨s4, rfl⟩ := hI
        obtain ⟨rest, hrest, rfl⟩ : ∃ rest, (subsF (xs.drop (i + 1)) s)[j]? = some rest ∧ d = room rest := by
          rw [List.getElem?_map] at hd
          cases e : (subsF (xs.drop (i + 1)) s)[j]? with
          | none => rw [e] at hd; cases hd
          | some z => rw [e] at hd; cases hd; exact ⟨z, rfl, rfl⟩
        have hj := (List.getElem?_eq_some_iff.mp hrest).1
        have hm2 := subsF_mem _ _ _ (List.mem_of_getElem? hrest)
        refine step_name (sv_append (d := room (xs.getD i 0 :: rest)) rfl (ev_is (ev_op (ev_tup (ea_cons (ev_op (ev_var rfl) (ev_var rfl) (rv_ixT (j := i) rfl (d := .int (xs.getD i 0)) ?_)) ea_nil) (by simp)) (ev_var rfl) (rv_catT ?_)) ?_) ?_ ⟨.val (room rest), ?_⟩)
        · rw [List.getElem?_map, List.getElem?_eq_getElem hlt, List.getD_eq_getElem?_getD, List.getElem?_eq_getElem hlt]; rfl
        · simp [hm2.1]; omega
        · rfl
        · simp; omega
        · rw [take_snoc hrest]; simp
      · obtain ⟨s4, rfl⟩ := hI
        refine ⟨.val (.int (i : Int)), s4, hlt, ?_⟩
        rw [List.length_map, List.take_length, preF_succ]
    · obtain ⟨s3, s4, hle, rfl⟩ := hI
      refine sv_freezeL (i := 2) rfl (sv_ret (ev_var rfl) ?_)
      show D.lst _ = D.lst _
      by_cases hx : xs.length < s + 1
      · have e0 : ((xs.length : Int) - ((s + 1 : Nat) : Int) + 1).toNat = 0 := by omega
        rw [e0, subsF_short xs (s + 1) hx]; rfl
      · rw [preF_end xs s _ hle (by omega)]
theorem ok_law_rooms {f : Addr} {fd : FuncData} (F : Fun K "_law_rooms" "_law_rooms" sLawRooms f fd) (B : Bl mg) (g : mg "_law_rooms" = some (.ref f)) (kp : PySem.W.keepIn K (.ref f) = true) (b : Binds K fd ["_law_items", "_law_size"] []) : ∀ m : Nat, FnOk P w K mg base CX0 (m + 1) f fd ["_law_items", "_law_size"] (spR K C (rSubs m))
  | 0 => ok_law_rooms_step F B ⟨f, fd, fn_false, g, kp, b⟩ (fun xs s h _ _ => by omega)
  | m + 1 => ok_law_rooms_step F B ⟨f, fd, ok_law_rooms F B g kp b m, g, kp, b⟩ (fun xs s h h1 h2 => ⟨xs, s, rfl, h1, by omega, h2, rfl⟩)

end
end NA

set_option Elab.async false
set_option linter.all false
set_option maxRecDepth 100000
set_option maxHeartbeats 4000000
set_option autoImplicit false
namespace NA
open PySem PySem.Spec PyProof.Rows L2
/-! ### rooms sorted -/
def Lt64 (a b : List Int) : Prop := TS.code 64 a < TS.code 64 b
theorem lt64_uniq {a b c : List (List Int)} (p : a.Perm c) (q : b.Perm c) (h1 : a.Pairwise fun n m => TS.code 64 n ≤ TS.code 64 m) (h2 : b.Pairwise Lt64) : a = b := by
  refine List.Perm.eq_of_pairwise (le := fun n m => TS.code 64 n ≤ TS.code 64 m) (fun x y hx hy h h' => ?_) h1 (h2.imp fun {x y} h => Int.le_of_lt h) (p.trans q.symm)
  have hx' : x ∈ b := (p.trans q.symm).mem_iff.mp hx
  by_cases e : x = y
  · exact e
  · rcases List.getElem_of_mem hx' with ⟨i, hi, ei⟩
    rcases List.getElem_of_mem hy with ⟨j, hj, ej⟩
    have hp := List.pairwise_iff_getElem.mp h2
    rcases Nat.lt_trichotomy i j with c | c | c
    · have : TS.code 64 b[i] < TS.code 64 b[j] := hp i j hi hj c
      rw [ei, ej] at this
      omega
    · subst c; exact absurd (ei.symm.trans ej) e
    · have : TS.code 64 b[j] < TS.code 64 b[i] := hp j i hj hi c
      rw [ei, ej] at this
      omega
section
variable {K : PySem.W.Frag} {C : Addr} {S S' H H' S0 H0 : Hp} {σ : L2.St} {Γ Γ' : List Sl} {E : AE}
def RowP (H : Hp) (y : V) (r : List Int) : Prop := ∃ t, y = .ref t ∧ H t = some (.tup (r.map V.int))
theorem rows_of (e : Same S H) : ∀ {ys : List V} {rs : List (List Int)}, IsL K C S ys (rs.map room) → Paired (RowP H) ys rs
  | _, [], .nil => .nil
  | _, r :: rs, .cons a t => by
    obtain ⟨p, rfl, h, _⟩ := a.room_inv
    exact .cons ⟨p, rfl, e _ _ h⟩ (rows_of e t)
theorem add_rows (e : Same S H) : ∀ {ys : List V} {rs : List (List Int)}, Paired (RowP H) ys rs → (∀ r ∈ rs, r.length ≤ 1000) → ∃ S', Grow S H S' H ∧ IsL K C S' ys (rs.map room)
  | _, _, .nil, _ => ⟨S, Grow.refl e, .nil⟩
  | _, _, .cons a t, hl => by
    obtain ⟨p, rfl, h⟩ := a
    obtain ⟨S1, g1, l1⟩ := add_rows e t fun r hr => hl r (List.mem_cons_of_mem _ hr)
    obtain ⟨S2, g2, h2⟩ := Grow.addT g1.le h
    refine ⟨S2, ⟨g1.hs.trans g2.hs, g2.le, Same.refl H, fun a o z z' => ?_⟩, .cons (is_room h2 (hl _ List.mem_cons_self)) (l1.mono g2.hs)⟩
    by_cases hb : S1 a = none
    · exact g2.fr a o z hb
    · cases hb' : S1 a with
      | none => exact absurd hb' hb
      | some u =>
        have := g2.hs a u hb'
        rw [z] at this; cases this
        exact g1.fr a _ hb' z'
/-- how a list of rooms is sorted -/
structure SortTo (rs zs : List (List Int)) (d : Nat) : Prop where
  perm : zs.Perm rs
  lt : zs.Pairwise Lt64
  row : ∀ r ∈ rs, r.length = d ∧ TS.Bd 64 r
  few : rs.length < 64
  one : 1 ≤ d ∨ rs.length ≤ 1
  dl : d ≤ 1000
theorem sort_end {rs zs : List (List Int)} {d : Nat} (t : SortTo rs zs d) (e : Same S H) {Q : VK} (q : ∀ v S' H', Grow S H S' H' → Is K C S' v (rooms zs) → Q v H') {ys : List V} {rs' : List (List Int)} {p : Addr} (h1 : Paired (RowP H) ys rs') (h2 : rs'.Perm rs) (h3 : rs'.Pairwise fun n m => TS.code 64 n ≤ TS.code 64 m) (hp : H p = none) : Q (.ref p) (upd H p (.lst ys)) := by
  have ez : rs' = zs := lt64_uniq h2 t.perm h3 t.lt
  subst ez
  obtain ⟨S1, g1, l1⟩ := add_rows (K := K) (C := C) e h1 fun r hr => by rw [(t.row r (t.perm.mem_iff.mp hr)).1]; exact t.dl
  exact q _ _ _ (g1.trans (Grow.new g1.le hp)) (.lst upd_same (l1.mono (same_upd (same_free g1.le hp))) (by rw [List.length_map, t.perm.length_eq]; exact Nat.le_of_lt (Nat.lt_of_lt_of_le t.few (by decide))))
theorem rc_sortRL {rs zs : List (List Int)} {d : Nat} (t : SortTo rs zs d) : RcD K C (NAX.rSortRL K) [rooms rs] (rooms zs) := fun S H vs e a Q q => by
  cases a with
  | cons h1 tt =>
    cases tt
    obtain ⟨p, vs, rfl, h1, l1, n1⟩ := h1.lst_inv
    exact ⟨p, vs, rs, d, 64, rfl, .of (e _ _ h1), rows_of e l1, t.row, t.few, t.one, fun ys rs' x a1 a2 a3 hx => sort_end t e q a1 a2 a3 hx⟩
theorem KvOk.keys : ∀ {ks : List (List L2.Key × V)} {kvs : List (List Int × D)}, KvOk K C S ks kvs → ks.map (·.1) = (kvs.map (·.1)).map (·.map Sum.inl)
  | _, _, .nil => rfl
  | _, _, .cons _ t => by simp only [List.map_cons]; rw [KvOk.keys t]
/-- sorted(d), d a dict in slot i -/
theorem ev_sortD {i : Nat} {s : Sl} {kvs : List (List Int × D)} {zs : List (List Int)} {d : Nat} (hi : Γ[i]? = some s) (hs : DSl s kvs) (t : SortTo (kvs.map (·.1)) zs d) : EvE K C (tCB (NAX.rSortRD K) (tCons (tVar i) tNil)) Γ (rooms zs) := fun σ S H E Q q => by
  obtain ⟨p, ks, e1, hr, hk, _⟩ := hs.at hi E
  exact ⟨.ref p, e1, p, ks, _, d, 64, rfl, hr, hk.keys, t.row, t.few, t.one, fun ys rs' x a1 a2 a3 hx => sort_end t E.le q a1 a2 a3 hx⟩
theorem sv_tail4 {a b c d tail : TS} {Dd : Ends} (h : SvE K C S0 H0 (tSeq a (tSeq b (tSeq c d))) Γ E) (e : Env K C S0 H0 S H σ Γ) (k : EndsOk K C S0 H0 S E { Dd with nx := tail Dd }) : (tSeq a (tSeq b (tSeq c (tSeq d tail)))) Dd σ H := h _ σ S H e k
theorem EnvOk.updO {x : Addr} {u u' : HO} (E : EnvOk K C S H σ Γ) (hS : S x = none) (hx : H x = some u) (hm : ∀ s : Sl, s.mut = true → ¬ SlOk K C S H (some (.ref x)) s) : EnvOk K C S (L2.upd H x u') σ Γ := by
  refine ⟨same_updM E.le hS, E.len, fun i s h => ?_, E.dis⟩
  obtain ⟨o, e, q⟩ := E.ok i s h
  exact ⟨o, e, q.updNe fun m z => by subst z; exact hm s m q⟩
theorem ins_nomut {x C' dx : Addr} {fs : List (Str × V)} (hx : H x = some (.ins C' dx fs)) (s : Sl) (m : s.mut = true) : ¬ SlOk K C S H (some (.ref x)) s := fun q => by
  cases s with
  | no => cases m
  | val d => cases m
  | ml ds => obtain ⟨p, vs, e, hS, hH, _⟩ := q; cases e; rw [hx] at hH; cases hH
  | md ds => obtain ⟨p, vs, e, hS, hH, _⟩ := q; cases e; rw [hx] at hH; cases hH
  | fd ds => obtain ⟨p, ob, vs, e, hS, hH, _⟩ := q; cases e; rw [hx] at hH; cases hH
end
/-! ### rooms as they are listed -/
def seqD (b : Bool) (r : List Int) : D := if b then room r else .lst (r.map D.int)
structure OkRoom (n s : Int) (r : List Int) : Prop where
  len : (r.length : Int) = s
  rng : ∀ i ∈ r, 0 ≤ i ∧ i < n
  nd : r.Nodup
def rFault : List D → D → Prop := fun ds d => ∃ (n s : Int) (b : Bool) (r : List Int), ds = [.int n, .int s, seqD b r] ∧ OkRoom n s r ∧ s ≤ 12 ∧ d = .str ""
section
variable {P : Program} {w : World} {K : PySem.W.Frag} {mg : Str → Option Value} {base : Heap} {C : Addr} {Γ : List Sl}
theorem ev_lenSet {te : TE} {b : Bool} {r : List Int} (h : EvE K C te Γ (seqD b r)) (nd : r.Nodup) (hl : r.length ≤ 60) : EvE K C (NAX.tLenSet K te) Γ (.int (r.length : Nat)) := fun σ S H E Q q =>
  h σ S H E _ fun v S1 H1 g1 i1 => by
    cases b with
    | true =>
      obtain ⟨p, rfl, hp, _⟩ := Is.room_inv (r := r) i1
      exact ⟨p, r, rfl, .inr (.of (g1.le _ _ hp)), nd, hl, q _ S1 H1 g1 (.int _)⟩
    | false =>
      obtain ⟨p, vs, rfl, hp, l, _⟩ := Is.lst_inv (ds := r.map D.int) i1
      rw [l.ints] at hp
      exact ⟨p, r, rfl, .inl (.of (g1.le _ _ hp)), nd, hl, q _ S1 H1 g1 (.int _)⟩
theorem rc_lenB {b : Bool} {r : List Int} : RcD K C (Evl.rLenS K) [seqD b r] (.int r.length) := by
  cases b with
  | true => have := rc_lenT (K := K) (C := C) (ds := r.map D.int); rw [List.length_map] at this; exact this
  | false => have := rc_lenL (K := K) (C := C) (ds := r.map D.int); rw [List.length_map] at this; exact this
theorem ok_room_fault {k : Nat} {f : Addr} {fd : FuncData} (F : Fun K "room_fault" "room_fault" sRoomFault f fd) (B : Bl mg) : FnOk P w K mg base CX0 (k + 1) f fd ["places", "size", "room"] (spR K C rFault) := by
  refine fn_ev F scRoomFault (fun ds d h => by obtain ⟨n, s, b, r, rfl, _⟩ := h; rfl) (fun ds d h cdv A outer st H E hr => ?_)
  obtain ⟨n, s, b, r, rfl, hk, h12, rfl⟩ := h
  have hl := hk.len
  cases b with
  | true =>
    refine ⟨_, (pss_cons (ps_if (pt_cmpR op_ne (pe_callB (kLen K) (by rfl) B.len (by decide +kernel) (pa_cons (pv 2) pa_nil)) (pv 1) (nomark _)) (pss_one (ps_ret pe_str)) pss_nil)
      (pss_cons (ps_for PassesOwn.never (by rfl) (pi_tup (pv 2)) (pg_name (i := 3) scRoomFault.nd rfl (.inl rfl))
       (pss_one (ps_if (pt_not (pt_chain op_le op_lt pe_int (pv 3) (pv 0))) (pss_one (ps_ret pe_str)) pss_nil)))
      (pss_cons (ps_if (pt_cmpR op_ne (NAX.pe_lenSet (by rfl) B.len (by rfl) B.set (pv 2)) (pv 1) (nomark _)) (pss_one (ps_ret pe_str)) pss_nil)
      (pss_one (ps_ret pe_str))))), fun S0 H0 => ?_⟩
    refine sv_seq (sv_if (et_test (ev_op (ev_cb (ea_cons (ev_var rfl) ea_nil) (rc_lenB (b := true))) (ev_var rfl) rv_neI)) (fun z => ?_) (fun _ => sv_next ?_))
    · rw [decide_eq_true hl] at z; cases z
    refine sv_seq (sv_forT (ds := r.map D.int) (fun i Γ => ∃ s3, Γ = [.val (.int n), .val (.int s), .val (room r), s3]) (ev_var rfl) ⟨_, rfl⟩ (fun i d Γ1 hd hI => ?_) (fun Γ1 hI => ?_))
    · obtain ⟨s3, rfl⟩ := hI
      rw [List.getElem?_map] at hd
      cases hp : r[i]? with
      | none => rw [hp] at hd; cases hd
      | some p =>
        rw [hp] at hd; cases hd
        have h2 := hk.rng p (List.mem_of_getElem? hp)
        refine step_name (sv_if (et_not (et_test (ev_chain ev_int (ev_var rfl) rv_B0 (fun _ => ev_var rfl) (fun _ => rv_B0)))) (fun z => ?_) (fun _ => sv_next ⟨_, rfl⟩))
        have e1 : decide ((0 : Int) ≤ p) = true := decide_eq_true h2.1
        have e2 : decide (p < n) = true := decide_eq_true h2.2
        simp only [e1, e2] at z; cases z
    · obtain ⟨s3, rfl⟩ := hI
      refine sv_seq (sv_if (et_test (ev_op (ev_lenSet (b := true) (ev_var rfl) hk.nd (by omega)) (ev_var rfl) rv_neI)) (fun z => ?_) (fun _ => sv_next ?_))
      · rw [decide_eq_true hl] at z; cases z
      exact sv_ret ev_str rfl
  | false =>
    refine ⟨_, (pss_cons (ps_if (pt_cmpR op_ne (pe_callB (kLen K) (by rfl) B.len (by decide +kernel) (pa_cons (pv 2) pa_nil)) (pv 1) (nomark _)) (pss_one (ps_ret pe_str)) pss_nil)
      (pss_cons (ps_for PassesOwn.never (by rfl) (pi_list (pv 2)) (pg_name (i := 3) scRoomFault.nd rfl (.inl rfl))
       (pss_one (ps_if (pt_not (pt_chain op_le op_lt pe_int (pv 3) (pv 0))) (pss_one (ps_ret pe_str)) pss_nil)))
      (pss_cons (ps_if (pt_cmpR op_ne (NAX.pe_lenSet (by rfl) B.len (by rfl) B.set (pv 2)) (pv 1) (nomark _)) (pss_one (ps_ret pe_str)) pss_nil)
      (pss_one (ps_ret pe_str))))), fun S0 H0 => ?_⟩
    refine sv_seq (sv_if (et_test (ev_op (ev_cb (ea_cons (ev_var rfl) ea_nil) (rc_lenB (b := false))) (ev_var rfl) rv_neI)) (fun z => ?_) (fun _ => sv_next ?_))
    · rw [decide_eq_true hl] at z; cases z
    refine sv_seq (sv_forL (ds := r.map D.int) (fun i Γ => ∃ s3, Γ = [.val (.int n), .val (.int s), .val (seqD false r), s3]) (ev_var rfl) ⟨_, rfl⟩ (fun i d Γ1 hd hI => ?_) (fun Γ1 hI => ?_))
    · obtain ⟨s3, rfl⟩ := hI
      rw [List.getElem?_map] at hd
      cases hp : r[i]? with
      | none => rw [hp] at hd; cases hd
      | some p =>
        rw [hp] at hd; cases hd
        have h2 := hk.rng p (List.mem_of_getElem? hp)
        refine step_name (sv_if (et_not (et_test (ev_chain ev_int (ev_var rfl) rv_B0 (fun _ => ev_var rfl) (fun _ => rv_B0)))) (fun z => ?_) (fun _ => sv_next ⟨_, rfl⟩))
        have e1 : decide ((0 : Int) ≤ p) = true := decide_eq_true h2.1
        have e2 : decide (p < n) = true := decide_eq_true h2.2
        simp only [e1, e2] at z; cases z
    · obtain ⟨s3, rfl⟩ := hI
      refine sv_seq (sv_if (et_test (ev_op (ev_lenSet (b := false) (ev_var rfl) hk.nd (by omega)) (ev_var rfl) rv_neI)) (fun z => ?_) (fun _ => sv_next ?_))
      · rw [decide_eq_true hl] at z; cases z
      exact sv_ret ev_str rfl
end
end NA

set_option Elab.async false
set_option linter.all false
set_option maxRecDepth 100000
set_option maxHeartbeats 4000000
set_option autoImplicit false
namespace NA
open PySem PySem.Spec PyProof.Rows L2
abbrev sBookInit : Stmt := inClass (topS 14) 1
abbrev nBookInit : List Str := ["self", "places", "size", "rooms", "known", "at", "listed", "fault", "room"]
theorem scBookInit : FnScope nBookInit ["self", "places", "size", "rooms"] (defScope sBookInit) := ⟨rfl, rfl, rfl, by decide +kernel, rfl, by decide +kernel, by decide +kernel⟩
abbrev sBookEmpty : Stmt := inClass (topS 14) 2
abbrev nBookEmpty : List Str := ["cls", "places", "size"]
theorem scBookEmpty : FnScope nBookEmpty ["cls", "places", "size"] (defScope sBookEmpty) := ⟨rfl, rfl, rfl, by decide +kernel, rfl, by decide +kernel, by decide +kernel⟩
section
variable {K : PySem.W.Frag} {C : Addr} {S S' H H' S0 H0 : Hp} {σ : L2.St} {Γ Γ' : List Sl} {E : AE}
theorem gset2 {d1 d2 : D} (i j : Nat) : GSet [i, j] Γ ((Γ.set i (.val d1)).set j (.val d2)) := ⟨fun k h => by
  rw [List.getElem?_set, if_neg (fun z => h (by simp [z])), List.getElem?_set, if_neg (fun z => h (by simp [z]))], fun k s h e => by
  rw [List.getElem?_set] at e
  split at e
  · split at e
    · cases e; rfl
    · cases e
  · rename_i hj
    have : k = i := by
      rcases List.mem_cons.mp h with q | q
      · exact q
      · exact absurd (by simpa using q : k = j).symm hj
    subst this
    rw [List.getElem?_set, if_pos rfl] at e
    split at e
    · cases e; rfl
    · cases e⟩
theorem init_fresh {rs : List (List Int)} {i : Nat} {r : List Int} (h6 : (rs.map isort).Nodup) (hr : rs[i]? = some r) :
    kvGet ((rs.take i).map fun r => (isort r, D.bl true)) (isort r) = none ∧ kvPut ((rs.take i).map fun r => (isort r, D.bl true)) (isort r) (.bl true) = ((rs.take i).map fun r => (isort r, D.bl true)) ++ [(isort r, .bl true)] := by
  have hno : ∀ q ∈ rs.take i, isort q ≠ isort r := fun q hq e => by
    obtain ⟨j, hj, ej⟩ := List.getElem_of_mem hq
    rw [List.length_take] at hj
    have hi := (List.getElem?_eq_some_iff.mp hr).1
    have hri := (List.getElem?_eq_some_iff.mp hr).2
    have := (List.nodup_iff_pairwise_ne.mp h6)
    have h := List.pairwise_iff_getElem.mp this j i (by simp; omega) (by simpa using hi) (by omega)
    rw [List.getElem_map, List.getElem_map, hri] at h
    rw [List.getElem_take] at ej
    rw [ej] at h
    exact h e
  constructor
  · unfold kvGet
    rw [List.find?_eq_none.mpr]
    · rfl
    · intro x hx
      obtain ⟨q, hq, rfl⟩ := List.mem_map.mp hx
      simpa using hno q hq
  · unfold kvPut
    rw [if_neg]
    rw [Bool.not_eq_true, List.any_eq_false]
    intro x hx
    obtain ⟨q, hq, rfl⟩ := List.mem_map.mp hx
    simpa using hno q hq
def init_t (K : PySem.W.Frag) : TS := tSeq (sFld K (tVar 0) (tVar 1) "places") (tSeq (sFld K (tVar 0) (tVar 2) "size") (sFld K (tVar 0) (tCB (rTupOf K) (tCons (tCB (NAX.rSortRD K) (tCons (tVar 4) tNil)) tNil)) "rooms"))
theorem init_tail {H0 : Hp} {x dx : Addr} {n s : Int} {rd : D} {kvs : List (List Int × D)} {zs : List (List Int)} {d : Nat} {s5 s6 s7 s8 : Sl} {Q : VK} {Dd : Ends} (cl : Cls K C) (naP : NoAttr K C "places") (naS : NoAttr K C "size") (naR : NoAttr K C "rooms")
    (hS0 : S0 x = none) (hx0 : H0 x = some (.ins C dx [])) (ev : Env K C S0 H0 S H σ [.val (.raw (.ref x)), .val (.int n), .val (.int s), .val rd, .md kvs, s5, s6, s7, s8]) (t : SortTo (kvs.map (·.1)) zs d)
    (q : ∀ r S' H', Same S0 S' → Same S' H' → S' x = none → (∀ a o, a ≠ x → H0 a = some o → H' a = some o) → (∀ a o, S' a = some o → S0 a = none → H0 a = none ∨ ∃ xs, o = .tup xs) → H' x = some (.ins C dx (bookF n s r)) → Is K C S' r (trooms zs) → Q .non H') : init_t K { Dd with nx := fun _ H' => Q .non H' } σ H := by
  obtain ⟨o0, e0, v0, rfl, i0⟩ := ev.e.ok 0 _ rfl
  obtain ⟨o1, e1, v1, rfl, i1⟩ := ev.e.ok 1 _ rfl
  obtain ⟨o2, e2, v2, rfl, i2⟩ := ev.e.ok 2 _ rfl
  have h1 : (("places" : Str) = ("size" : Str)) = False := by simp; decide
  have h2 : (("places" : Str) = ("rooms" : Str)) = False := by simp; decide
  have h3 : (("size" : Str) = ("rooms" : Str)) = False := by simp; decide
  cases i0.raw_inv; cases i1.int_inv; cases i2.int_inv
  have hx : H x = some (.ins C dx []) := ev.g.hh _ _ hx0
  have hS : S x = none := (ev.g.keepM hS0 hx0 (fun xs z => nomatch z)).1
  refine ⟨.int n, e1, .ref x, e0, x, C, dx, [], rfl, hx, cl, naP, by simp, ?_⟩
  have E1 := ev.e.updO (u' := .ins C dx (putF "places" (.int n) [])) hS hx (ins_nomut hx)
  refine ⟨.int s, e2, .ref x, e0, x, C, dx, _, rfl, upd_same, cl, naS, by simp [putF, h1, h2, h3], ?_⟩
  have E2 := E1.updO (u' := .ins C dx (putF "size" (.int s) (putF "places" (.int n) []))) hS upd_same (ins_nomut upd_same)
  generalize hH2 : upd (upd H x (.ins C dx (putF "places" (.int n) []))) x (.ins C dx (putF "size" (.int s) (putF "places" (.int n) []))) = H2 at E2 ⊢
  have hx2 : H2 x = some (.ins C dx (putF "size" (.int s) (putF "places" (.int n) []))) := by rw [← hH2]; exact upd_same
  refine (ev_cb (ea_cons (ev_sortD (i := 4) rfl .md t) ea_nil) rc_tupL) σ S H2 E2 _ fun r S' H' g i => ?_
  obtain ⟨f1, f2⟩ := g.keepM hS hx2 (fun xs z => nomatch z)
  refine ⟨.ref x, e0, x, C, dx, _, rfl, f2, cl, naR, by simp [putF, h1, h2, h3], ?_⟩
  have keepx : ∀ a o, a ≠ x → H0 a = some o → H2 a = some o := fun a o ha h => by
    rw [← hH2, upd_ne ha, upd_ne ha]; exact ev.g.hh _ _ h
  refine q r S' _ (ev.g.hs.trans g.hs) (same_updM g.le f1) f1 (fun a o ha h => ?_) (fun a o z z' => ?_) ?_ i
  · rw [upd_ne ha]; exact g.hh _ _ (keepx a o ha h)
  · cases hb : S a with
    | none =>
      rcases g.fr a o z hb with w | w
      · left
        cases hh : H0 a with
        | none => rfl
        | some u =>
          by_cases hax : a = x
          · subst hax; rw [hx2] at w; cases w
          · rw [keepx a u hax hh] at w; cases w
      · exact .inr w
    | some u =>
      have := g.hs a u hb
      rw [z] at this; cases this
      exact ev.g.fr a o hb z'
  · rw [upd_same]
    simp [putF, bookF, h1, h2, h3]
end
def rInit : List D → Int → Int → List (List Int) → Prop := fun ds n s zs => ∃ (b : Bool) (rs : List (List Int)), ds = [.int n, .int s, .lst (rs.map (seqD b))] ∧ 1 ≤ n ∧ n ≤ 12 ∧ 1 ≤ s ∧ s ≤ n ∧ (∀ r ∈ rs, OkRoom n s r) ∧ (rs.map isort).Nodup ∧ rs.length < 64 ∧ zs.Perm (rs.map isort) ∧ zs.Pairwise Lt64
section
variable {P : Program} {w : World} {K : PySem.W.Frag} {mg : Str → Option Value} {base : Heap} {C : Addr}
theorem init_sort {rs zs : List (List Int)} {n s : Int} (h1 : n ≤ 12) (hs : 1 ≤ s) (hsn : s ≤ n) (h5 : ∀ r ∈ rs, OkRoom n s r) (h7 : rs.length < 64) (h8 : zs.Perm (rs.map isort)) (h9 : zs.Pairwise Lt64) : SortTo ((rs.map fun r => (isort r, D.bl true)).map (·.1)) zs s.toNat := by
  rw [List.map_map]
  refine ⟨h8, h9, fun r hr => ?_, by simpa using h7, .inl (by omega), by omega⟩
  obtain ⟨q, hq, rfl⟩ := List.mem_map.mp hr
  have ok := h5 q hq
  refine ⟨?_, fun m hm => ?_⟩
  · show (isort q).length = _
    rw [isort_length]; have := ok.len; omega
  · have := ok.rng m ((isort_perm q).mem_iff.mp hm); omega
theorem ok_init {k : Nat} {f : Addr} {fd : FuncData} {mc u : Value} (F : Fun K "__init__" "Book.__init__" sBookInit f fd) (B : Bl mg) (gC : mg "Book" = some (.ref C)) (cl : Cls K C) (naP : NoAttr K C "places") (naS : NoAttr K C "size") (naR : NoAttr K C "rooms")
    (hcr : ClX.CRead K C mc) (hcv : ClX.CVal K C mc "MOST_PLACES" (.int 12) u) (D_room_fault : Def P w K mg base CX0 k "room_fault" ["places", "size", "room"] (spR K C rFault)) : FnOk P w K mg base CX0 (k + 1) f fd ["self", "places", "size", "rooms"] (spI K C rInit) := by
  refine F.ok scBookInit (fun vs H Q E h => ?_) (fun cdv A outer st H vs Q E hr h => ?_)
  · obtain ⟨S, x, dx, ws, ds, n, s, rs, rfl, _, _, _, _, l, ⟨b, rs', rfl, _⟩, _⟩ := h
    have := l.length
    simp only [List.length_cons, List.length_nil] at this ⊢
    omega
  · obtain ⟨S, x, dx, ws, ds, n, s, zs, rfl, e, hS, hx, hdx, l, ⟨b, rs, rfl, h1, h2, h3, h4, h5, h6, h7, h8, h9⟩, q⟩ := h
    have hst := init_sort h2 h3 h4 h5 h7 h8 h9
    cases b with
    | true =>
    refine ⟨_, (pss_cons (ps_if (pt_not (pt_chain op_le op_le pe_int (pv 1) (ClX.pe_cval (pe_glob (v := .ref C) (by rfl) gC rfl)))) (pss_one ps_never) pss_nil)
      (pss_cons (ps_if (pt_not (pt_chain op_le op_le pe_int (pv 2) (pv 1))) (pss_one ps_never) pss_nil)
      (pss_cons (ps_set (i := 4) scBookInit.nd rfl (.inl rfl) pe_dnewT)
      (pss_cons (ps_for PassesOwn.never (by rfl) (pi_enum (by rfl) B.enumerate (pa_cons (pv 3) pa_nil)) (pg_tup (by rfl) (pgs_cons (pg_name (i := 5) scBookInit.nd rfl (.inl rfl)) (pgs_cons (pg_name (i := 6) scBookInit.nd rfl (.inl rfl)) pgs_nil)))
       (pss_cons (ps_set (i := 7) scBookInit.nd rfl (.inl rfl) (pe_cd D_room_fault (hr.mono (by omega)) (by rfl) pass0 (pa_cons (pv 1) (pa_cons (pv 2) (pa_cons (pv 6) pa_nil)))))
       (pss_cons (ps_set (i := 8) scBookInit.nd rfl (.inl rfl) (pe_callTy cr_tup (by rfl) B.tuple (by decide +kernel) (pa_cons (pe_callB NAX.cr_sortTI (by rfl) B.sorted (by decide +kernel) (pa_cons (pv 6) pa_nil)) pa_nil)))
       (pss_cons (ps_if (PW.pt (pw_and (pt_cmpR op_eq (pv 7) pe_str (nomark _)) (pw_and1 (pt_cmp (pc_din (hu_of hr) (pv 8) (pv 4)))))) (pss_one (ps_set (i := 7) scBookInit.nd rfl (.inl rfl) pe_str)) pss_nil)
       (pss_cons (ps_if (pt_cmpR op_ne (pv 7) pe_str (nomark _)) (pss_one ps_never) pss_nil)
       (pss_one (ps_dput (hu_of hr) (pv 4) (pv 8) pe_bl rfl)))))))
      (pss_cons (ps_fld (pv 0) (pv 1) rfl)
      (pss_cons (ps_fld (pv 0) (pv 2) rfl)
      (pss_one (ps_fld (pv 0) (pe_callTy cr_tup (by rfl) B.tuple (by decide +kernel) (pa_cons (pe_callB (NAX.cr_sortRD rfl) (by rfl) B.sorted (by decide +kernel) (pa_cons (pv 4) pa_nil)) pa_nil)) rfl)))))))), ?_⟩
    refine sv_tail4 (K := K) (C := C) (S := S) (S0 := S) (H0 := H) (Γ := Γ0 nBookInit (D.raw (.ref x) :: [.int n, .int s, .lst (rs.map (seqD true))])) (E := { nx := fun Γ => ∃ s5 s6 s7 s8, Γ = [.val (.raw (.ref x)), .val (.int n), .val (.int s), .val (.lst (rs.map (seqD true))), .md (rs.map fun r => (isort r, .bl true)), s5, s6, s7, s8] }) ?_ (Env0 e (.cons (.raw _) l)) ⟨fun Γ σ S1 H1 ev _ hΓ => ?_, fun _ _ _ _ _ _ z => z.elim, fun _ _ _ _ _ _ z => z.elim, fun _ _ _ _ _ _ z => z.elim⟩
    · refine sv_seq (sv_if (et_not (et_test (ev_chain ev_int (ev_var rfl) rv_B0 (fun _ => ev_cval ev_raw hcr hcv) (fun _ => rv_B0)))) (fun z => ?_) (fun _ => sv_next ?_))
      · have e1 : decide ((1 : Int) ≤ n) = true := decide_eq_true h1
        have e2 : decide (n ≤ (12 : Int)) = true := decide_eq_true h2
        simp only [e1, e2] at z; cases z
      refine sv_seq (sv_if (et_not (et_test (ev_chain ev_int (ev_var rfl) rv_B0 (fun _ => ev_var rfl) (fun _ => rv_B0)))) (fun z => ?_) (fun _ => sv_next ?_))
      · have e1 : decide ((1 : Int) ≤ s) = true := decide_eq_true h3
        have e2 : decide (s ≤ n) = true := decide_eq_true h4
        simp only [e1, e2] at z; cases z
      refine sv_seq (sv_dnew ?_)
      refine sv_forE (ds := rs.map (seqD true)) (fun i Γ => ∃ s5 s6 s7 s8, Γ = [.val (.raw (.ref x)), .val (.int n), .val (.int s), .val (.lst (rs.map (seqD true))), .md ((rs.take i).map fun r => (isort r, .bl true)), s5, s6, s7, s8]) (ea_cons (ev_var rfl) ea_nil) ⟨_, _, _, _, rfl⟩ (fun i d Γ1 hd hI => ?_) (fun Γ1 hI => ?_)
      · obtain ⟨s5, s6, s7, s8, rfl⟩ := hI
        rw [List.getElem?_map] at hd
        cases hr' : rs[i]? with
        | none => rw [hr'] at hd; cases hd
        | some r =>
          rw [hr'] at hd; cases hd
          have hmem := List.mem_of_getElem? hr'
          have hok := h5 r hmem
          have hlen := hok.len
          have hi := (List.getElem?_eq_some_iff.mp hr').1
          have fresh := init_fresh h6 hr'
          refine ⟨[5, 6], _, gset2 5 6, tg_tup (tgl_cons tg_name (tgl_cons tg_name tgl_nil)) rfl, ?_⟩
          refine sv_seq (sv_asg (d := .str "") (ev_call0 (ea_cons (ev_var rfl) (ea_cons (ev_var rfl) (ea_cons (ev_var rfl) ea_nil))) ⟨n, s, true, r, rfl, hok, by omega, rfl⟩) ?_)
          refine sv_seq (sv_asg (ev_cb (ea_cons (ev_cb (ea_cons (ev_var rfl) ea_nil) (rc_sortT (ns := r) (by omega))) ea_nil) rc_tupL) ?_)
          refine sv_seq (sv_if (et_and (et_test (ev_op (ev_var rfl) ev_str rv_eqS)) (fun _ => et_B (et_din rfl .md (ev_var rfl)))) (fun z => ?_) (fun _ => sv_next ?_))
          · rw [fresh.1] at z; simp at z
          refine sv_seq (sv_if (et_test (ev_op (ev_var rfl) ev_str rv_neS)) (fun z => ?_) (fun _ => sv_next ?_))
          · simp at z
          refine sv_dput rfl ev_bl (ev_var rfl) (by rw [List.length_map, List.length_take]; omega) ⟨.val (.int (i : Int)), .val (seqD true r), .val (.str ""), .val (room (isort r)), ?_⟩
          rw [fresh.2, take_snoc hr', List.map_append]; rfl
      · obtain ⟨s5, s6, s7, s8, rfl⟩ := hI
        rw [List.length_map, List.take_length]
        exact ⟨s5, s6, s7, s8, rfl⟩
    · obtain ⟨s5, s6, s7, s8, rfl⟩ := hΓ
      exact init_tail (Dd := { nx := fun _ H' => Q .non H', rt := Q }) cl naP naS naR hS hx ev (by simpa [List.map_map, Function.comp_def] using hst) fun r S' H' a1 a2 a3 a4 a5 a6 a7 => q r S' H' a1 a2 a3 a4 a5 a6 a7

    | false =>
    refine ⟨_, (pss_cons (ps_if (pt_not (pt_chain op_le op_le pe_int (pv 1) (ClX.pe_cval (pe_glob (v := .ref C) (by rfl) gC rfl)))) (pss_one ps_never) pss_nil)
      (pss_cons (ps_if (pt_not (pt_chain op_le op_le pe_int (pv 2) (pv 1))) (pss_one ps_never) pss_nil)
      (pss_cons (ps_set (i := 4) scBookInit.nd rfl (.inl rfl) pe_dnewT)
      (pss_cons (ps_for PassesOwn.never (by rfl) (pi_enum (by rfl) B.enumerate (pa_cons (pv 3) pa_nil)) (pg_tup (by rfl) (pgs_cons (pg_name (i := 5) scBookInit.nd rfl (.inl rfl)) (pgs_cons (pg_name (i := 6) scBookInit.nd rfl (.inl rfl)) pgs_nil)))
       (pss_cons (ps_set (i := 7) scBookInit.nd rfl (.inl rfl) (pe_cd D_room_fault (hr.mono (by omega)) (by rfl) pass0 (pa_cons (pv 1) (pa_cons (pv 2) (pa_cons (pv 6) pa_nil)))))
       (pss_cons (ps_set (i := 8) scBookInit.nd rfl (.inl rfl) (pe_callTy cr_tup (by rfl) B.tuple (by decide +kernel) (pa_cons (pe_callB cr_sorted (by rfl) B.sorted (by decide +kernel) (pa_cons (pv 6) pa_nil)) pa_nil)))
       (pss_cons (ps_if (PW.pt (pw_and (pt_cmpR op_eq (pv 7) pe_str (nomark _)) (pw_and1 (pt_cmp (pc_din (hu_of hr) (pv 8) (pv 4)))))) (pss_one (ps_set (i := 7) scBookInit.nd rfl (.inl rfl) pe_str)) pss_nil)
       (pss_cons (ps_if (pt_cmpR op_ne (pv 7) pe_str (nomark _)) (pss_one ps_never) pss_nil)
       (pss_one (ps_dput (hu_of hr) (pv 4) (pv 8) pe_bl rfl)))))))
      (pss_cons (ps_fld (pv 0) (pv 1) rfl)
      (pss_cons (ps_fld (pv 0) (pv 2) rfl)
      (pss_one (ps_fld (pv 0) (pe_callTy cr_tup (by rfl) B.tuple (by decide +kernel) (pa_cons (pe_callB (NAX.cr_sortRD rfl) (by rfl) B.sorted (by decide +kernel) (pa_cons (pv 4) pa_nil)) pa_nil)) rfl)))))))), ?_⟩
    refine sv_tail4 (K := K) (C := C) (S := S) (S0 := S) (H0 := H) (Γ := Γ0 nBookInit (D.raw (.ref x) :: [.int n, .int s, .lst (rs.map (seqD false))])) (E := { nx := fun Γ => ∃ s5 s6 s7 s8, Γ = [.val (.raw (.ref x)), .val (.int n), .val (.int s), .val (.lst (rs.map (seqD false))), .md (rs.map fun r => (isort r, .bl true)), s5, s6, s7, s8] }) ?_ (Env0 e (.cons (.raw _) l)) ⟨fun Γ σ S1 H1 ev _ hΓ => ?_, fun _ _ _ _ _ _ z => z.elim, fun _ _ _ _ _ _ z => z.elim, fun _ _ _ _ _ _ z => z.elim⟩
    · refine sv_seq (sv_if (et_not (et_test (ev_chain ev_int (ev_var rfl) rv_B0 (fun _ => ev_cval ev_raw hcr hcv) (fun _ => rv_B0)))) (fun z => ?_) (fun _ => sv_next ?_))
      · have e1 : decide ((1 : Int) ≤ n) = true := decide_eq_true h1
        have e2 : decide (n ≤ (12 : Int)) = true := decide_eq_true h2
        simp only [e1, e2] at z; cases z
      refine sv_seq (sv_if (et_not (et_test (ev_chain ev_int (ev_var rfl) rv_B0 (fun _ => ev_var rfl) (fun _ => rv_B0)))) (fun z => ?_) (fun _ => sv_next ?_))
      · have e1 : decide ((1 : Int) ≤ s) = true := decide_eq_true h3
        have e2 : decide (s ≤ n) = true := decide_eq_true h4
        simp only [e1, e2] at z; cases z
      refine sv_seq (sv_dnew ?_)
      refine sv_forE (ds := rs.map (seqD false)) (fun i Γ => ∃ s5 s6 s7 s8, Γ = [.val (.raw (.ref x)), .val (.int n), .val (.int s), .val (.lst (rs.map (seqD false))), .md ((rs.take i).map fun r => (isort r, .bl true)), s5, s6, s7, s8]) (ea_cons (ev_var rfl) ea_nil) ⟨_, _, _, _, rfl⟩ (fun i d Γ1 hd hI => ?_) (fun Γ1 hI => ?_)
      · obtain ⟨s5, s6, s7, s8, rfl⟩ := hI
        rw [List.getElem?_map] at hd
        cases hr' : rs[i]? with
        | none => rw [hr'] at hd; cases hd
        | some r =>
          rw [hr'] at hd; cases hd
          have hmem := List.mem_of_getElem? hr'
          have hok := h5 r hmem
          have hlen := hok.len
          have hi := (List.getElem?_eq_some_iff.mp hr').1
          have fresh := init_fresh h6 hr'
          refine ⟨[5, 6], _, gset2 5 6, tg_tup (tgl_cons tg_name (tgl_cons tg_name tgl_nil)) rfl, ?_⟩
          refine sv_seq (sv_asg (d := .str "") (ev_call0 (ea_cons (ev_var rfl) (ea_cons (ev_var rfl) (ea_cons (ev_var rfl) ea_nil))) ⟨n, s, false, r, rfl, hok, by omega, rfl⟩) ?_)
          refine sv_seq (sv_asg (ev_cb (ea_cons (ev_cb (ea_cons (ev_var rfl) ea_nil) (rc_sortL (ns := r) (by omega))) ea_nil) rc_tupL) ?_)
          refine sv_seq (sv_if (et_and (et_test (ev_op (ev_var rfl) ev_str rv_eqS)) (fun _ => et_B (et_din rfl .md (ev_var rfl)))) (fun z => ?_) (fun _ => sv_next ?_))
          · rw [fresh.1] at z; simp at z
          refine sv_seq (sv_if (et_test (ev_op (ev_var rfl) ev_str rv_neS)) (fun z => ?_) (fun _ => sv_next ?_))
          · simp at z
          refine sv_dput rfl ev_bl (ev_var rfl) (by rw [List.length_map, List.length_take]; omega) ⟨.val (.int (i : Int)), .val (seqD false r), .val (.str ""), .val (room (isort r)), ?_⟩
          rw [fresh.2, take_snoc hr', List.map_append]; rfl
      · obtain ⟨s5, s6, s7, s8, rfl⟩ := hI
        rw [List.length_map, List.take_length]
        exact ⟨s5, s6, s7, s8, rfl⟩
    · obtain ⟨s5, s6, s7, s8, rfl⟩ := hΓ
      exact init_tail (Dd := { nx := fun _ H' => Q .non H', rt := Q }) cl naP naS naR hS hx ev (by simpa [List.map_map, Function.comp_def] using hst) fun r S' H' a1 a2 a3 a4 a5 a6 a7 => q r S' H' a1 a2 a3 a4 a5 a6 a7

end
end NA

set_option Elab.async false
set_option linter.all false
set_option maxRecDepth 100000
set_option maxHeartbeats 4000000
set_option autoImplicit false
namespace NA
open PySem PySem.Spec PyProof.Rows L2
/-! ### all rooms of s places among n -/
def upI (n : Nat) : List Int := (List.range n).map fun (i : Nat) => (i : Int)
def allR (n s : Nat) : List (List Int) := subsF (upI n) s
instance (a b : List Int) : Decidable (Lt64 a b) := inferInstanceAs (Decidable (TS.code 64 a < TS.code 64 b))
def roomC (n s : Nat) (r : List Int) : Bool := decide (r.length = s) && r.all (fun i => decide (0 ≤ i) && decide (i < (n : Int))) && decide (r.Pairwise (· < ·)) 
theorem allR_lt : ∀ n, n < 7 → ∀ s, s < 8 → (allR n s).Pairwise Lt64 := by decide +kernel
theorem allR_len : ∀ n, n < 7 → ∀ s, s < 8 → (allR n s).length ≤ 20 := by decide +kernel
theorem allR_C : ∀ n, n < 7 → ∀ s, s < 8 → (allR n s).all (roomC n s) = true := by decide +kernel
theorem allR_faces : ∀ n, n < 7 → ∀ s, s < 7 → (allR n (s + 1)).all (fun r => (facesF r).all fun f => (allR n s).contains f) = true := by decide +kernel
structure RoomOk (n s : Nat) (r : List Int) : Prop where
  len : r.length = s
  rng : ∀ i ∈ r, 0 ≤ i ∧ i < (n : Int)
  lt : r.Pairwise (· < ·)
theorem roomOk {n s : Nat} {r : List Int} (hn : n < 7) (hs : s < 8) (h : r ∈ allR n s) : RoomOk n s r := by
  have := List.all_eq_true.mp (allR_C n hn s hs) r h
  unfold roomC at this
  simp only [Bool.and_eq_true, List.all_eq_true, decide_eq_true_eq] at this
  exact ⟨this.1.1, this.1.2, this.2⟩
theorem RoomOk.nd {n s : Nat} {r : List Int} (h : RoomOk n s r) : r.Nodup := h.lt.imp fun {a b} h => Int.ne_of_lt h
theorem RoomOk.ok {n s : Nat} {r : List Int} (h : RoomOk n s r) : OkRoom n s r := ⟨by rw [h.len], h.rng, h.nd⟩
theorem RoomOk.isort {n s : Nat} {r : List Int} (h : RoomOk n s r) : NA.isort r = r := isort_eq (.refl _) (h.lt.imp fun {a b} h => Int.le_of_lt h)
theorem RoomOk.isort_rev {n s : Nat} {r : List Int} (h : RoomOk n s r) : NA.isort r.reverse = r := isort_eq r.reverse_perm.symm (h.lt.imp fun {a b} h => Int.le_of_lt h)
theorem allR_face {n s : Nat} {r f : List Int} (hn : n < 7) (hs : s < 7) (h : r ∈ allR n (s + 1)) (hf : f ∈ facesF r) : f ∈ allR n s := by
  have := List.all_eq_true.mp (allR_faces n hn s hs) r h
  simpa using List.all_eq_true.mp this f hf
theorem allR_nd {n s : Nat} (hn : n < 7) (hs : s < 8) : (allR n s).Nodup := (allR_lt n hn s hs).imp fun {a b} h z => by subst z; exact absurd h (Int.lt_irrefl _)
/-! ### selections -/
def sel (n s : Nat) (p : List Int → Bool) : List (List Int) := (allR n s).filter p
abbrev Sub (n s : Nat) (rs : List (List Int)) : Prop := rs.Sublist (allR n s)
theorem sel_sub (n s : Nat) (p : List Int → Bool) : Sub n s (sel n s p) := List.filter_sublist
theorem Sub.lt {n s : Nat} {rs : List (List Int)} (h : Sub n s rs) (hn : n < 7) (hs : s < 8) : rs.Pairwise Lt64 := (allR_lt n hn s hs).sublist h
theorem Sub.nd {n s : Nat} {rs : List (List Int)} (h : Sub n s rs) (hn : n < 7) (hs : s < 8) : rs.Nodup := (allR_nd hn hs).sublist h
theorem Sub.len {n s : Nat} {rs : List (List Int)} (h : Sub n s rs) (hn : n < 7) (hs : s < 8) : rs.length ≤ 20 := Nat.le_trans h.length_le (allR_len n hn s hs)
theorem Sub.ok {n s : Nat} {rs : List (List Int)} (h : Sub n s rs) (hn : n < 7) (hs : s < 8) {r : List Int} (hr : r ∈ rs) : RoomOk n s r := roomOk hn hs (h.subset hr)
theorem mem_sel {n s : Nat} {p : List Int → Bool} {r : List Int} : r ∈ sel n s p ↔ r ∈ allR n s ∧ p r = true := List.mem_filter
theorem perm_sel {n s : Nat} (hn : n < 7) (hs : s < 8) {ks : List (List Int)} {p : List Int → Bool} (nd : ks.Nodup) (h : ∀ f, f ∈ ks ↔ f ∈ allR n s ∧ p f = true) : (sel n s p).Perm ks :=
  (List.perm_ext_iff_of_nodup ((sel_sub n s p).nd hn hs) nd).mpr fun f => by rw [mem_sel, h]
theorem Sub.eq_sel {n s : Nat} {rs : List (List Int)} (h : Sub n s rs) (hn : n < 7) (hs : s < 8) : rs = sel n s fun r => decide (r ∈ rs) := by
  have p : (sel n s fun r => decide (r ∈ rs)).Perm rs := perm_sel hn hs (h.nd hn hs) fun f => by simp; exact fun hf => h.subset hf
  exact lt64_uniq p.symm (.refl _) ((h.lt hn hs).imp fun {a b} h => Int.le_of_lt h) ((sel_sub n s _).lt hn hs)
theorem Sub.ext {n s : Nat} {rs qs : List (List Int)} (h : Sub n s rs) (h' : Sub n s qs) (hn : n < 7) (hs : s < 8) (e : ∀ r, r ∈ allR n s → (r ∈ rs ↔ r ∈ qs)) : rs = qs := by
  rw [h.eq_sel hn hs, h'.eq_sel hn hs]
  exact List.filter_congr fun r hr => by simp [e r hr]
theorem sel_sort {n s : Nat} (hn : n < 7) (hs : s < 8) {ks : List (List Int)} {p : List Int → Bool} (nd : ks.Nodup) (h : ∀ f, f ∈ ks ↔ f ∈ allR n s ∧ p f = true) : SortTo ks (sel n s p) s := by
  have pm := perm_sel hn hs nd h
  have hl : ks.length ≤ 20 := by rw [← pm.length_eq]; exact (sel_sub n s p).len hn hs
  refine ⟨pm, (sel_sub n s p).lt hn hs, fun r hr => ?_, by omega, ?_, by omega⟩
  · have ok := roomOk hn hs ((h r).mp hr).1
    exact ⟨ok.len, fun m hm => by have := ok.rng m hm; omega⟩
  · by_cases h0 : 1 ≤ s
    · exact .inl h0
    · right
      have : s = 0 := by omega
      subst this
      rw [← pm.length_eq]
      exact Nat.le_trans (sel_sub n 0 p).length_le (by unfold allR; simp [subsF])
/-! ### what is counted -/
def oddP (l : List (List Int)) (f : List Int) : Bool := l.count f % 2 == 1
def getI (kz : List (List Int × Int)) (f : List Int) : Option Int := (kz.find? fun kv => decide (kv.1 = f)).map (·.2)
def putI (kz : List (List Int × Int)) (f : List Int) (z : Int) : List (List Int × Int) := if (kz.any fun kv => decide (kv.1 = f)) then kz.map fun kv => if kv.1 = f then (kv.1, z) else kv else kz ++ [(f, z)]
def kD (kz : List (List Int × Int)) : List (List Int × D) := kz.map fun kv => (kv.1, D.int kv.2)
theorem kvGet_kD (f : List Int) : ∀ kz, kvGet (kD kz) f = (getI kz f).map D.int
  | [] => rfl
  | kv :: r => by
    have ih := kvGet_kD f r
    unfold kvGet getI kD at ih ⊢
    by_cases h : kv.1 = f
    · simp [h]
    · simpa [h] using ih
theorem kD_any (f : List Int) (kz) : ((kD kz).any fun kv => decide (kv.1 = f)) = kz.any fun kv => decide (kv.1 = f) := by
  unfold kD; rw [List.any_map]; rfl
theorem kvPut_kD (f : List Int) (z : Int) (kz) : kvPut (kD kz) f (.int z) = kD (putI kz f z) := by
  unfold kvPut putI
  rw [kD_any]
  split
  · unfold kD; rw [List.map_map, List.map_map]
    refine List.map_congr_left fun kv _ => ?_
    by_cases h : kv.1 = f <;> simp [h]
  · unfold kD; rw [List.map_append]; rfl
/-- the dict behind the list l: each of l's items once, with the number v (how often) -/
structure Tal (v : Nat → Int) (l : List (List Int)) (kz : List (List Int × Int)) : Prop where
  nd : (kz.map (·.1)).Nodup
  val : ∀ f, getI kz f = if f ∈ l then some (v (l.count f)) else none
  len : kz.length ≤ l.length
theorem getI_mem {kz : List (List Int × Int)} {f : List Int} : f ∈ kz.map (·.1) ↔ (getI kz f).isSome = true := by
  unfold getI
  rw [Option.isSome_map, List.find?_isSome, List.mem_map]
  constructor
  · rintro ⟨kv, h, rfl⟩; exact ⟨kv, h, by simp⟩
  · rintro ⟨kv, h, e⟩; exact ⟨kv, h, by simpa using e⟩
theorem getI_put (kz : List (List Int × Int)) (f g : List Int) (z : Int) : getI (putI kz f z) g = if g = f then some z else getI kz g := by
  unfold putI
  split
  · rename_i ha
    induction kz with
    | nil => simp at ha
    | cons kv r ih =>
      unfold getI at ih ⊢
      rw [List.map_cons]
      by_cases h : kv.1 = f
      · subst h
        rw [if_pos rfl]
        by_cases hg : g = kv.1
        · subst hg; simp
        · have hg' : ¬ kv.1 = g := fun z => hg z.symm
          rw [if_neg hg, List.find?_cons_of_neg (by simpa using hg'), List.find?_cons_of_neg (by simpa using hg')]
          clear ih ha
          induction r with
          | nil => rfl
          | cons kw r ih2 =>
            rw [List.map_cons]
            by_cases h2 : kw.1 = kv.1
            · rw [if_pos h2, List.find?_cons_of_neg (by simpa [h2] using hg'), List.find?_cons_of_neg (by simpa [h2] using hg')]; exact ih2
            · rw [if_neg h2]
              by_cases h3 : kw.1 = g
              · rw [List.find?_cons_of_pos (by simp [h3]), List.find?_cons_of_pos (by simp [h3])]
              · rw [List.find?_cons_of_neg (by simpa using h3), List.find?_cons_of_neg (by simpa using h3)]; exact ih2
      · rw [if_neg h]
        have ha' : (r.any fun kv => decide (kv.1 = f)) = true := by simpa [h] using ha
        by_cases hg : kv.1 = g
        · have : ¬ g = f := fun z => h (hg.trans z)
          rw [if_neg this, List.find?_cons_of_pos (by simp [hg]), List.find?_cons_of_pos (by simp [hg])]
        · rw [List.find?_cons_of_neg (by simpa using hg), List.find?_cons_of_neg (by simpa using hg)]
          exact ih ha'
  · rename_i ha
    unfold getI
    rw [List.find?_append]
    by_cases hg : g = f
    · subst hg
      rw [if_pos rfl, List.find?_eq_none.mpr]
      · simp
      · intro kv hkv
        rw [Bool.not_eq_true, List.any_eq_false] at ha
        exact ha kv hkv
    · rw [if_neg hg]
      have : ¬ f = g := fun z => hg z.symm
      cases hx : kz.find? fun kv => decide (kv.1 = g) with
      | none => simp [this]
      | some y => simp
theorem putI_keys (kz : List (List Int × Int)) (f : List Int) (z : Int) : (putI kz f z).map (·.1) = if f ∈ kz.map (·.1) then kz.map (·.1) else kz.map (·.1) ++ [f] := by
  unfold putI
  have e : (kz.any fun kv => decide (kv.1 = f)) = decide (f ∈ kz.map (·.1)) := by
    rw [Bool.eq_iff_iff, List.any_eq_true, decide_eq_true_eq, List.mem_map]
    constructor
    · rintro ⟨kv, h, q⟩; exact ⟨kv, h, by simpa using q⟩
    · rintro ⟨kv, h, q⟩; exact ⟨kv, h, by simpa using q⟩
  rw [e]
  by_cases h : f ∈ kz.map (·.1)
  · rw [if_pos h, if_pos (decide_eq_true h), List.map_map]
    refine List.map_congr_left fun kv _ => ?_
    by_cases h2 : kv.1 = f <;> simp [h2]
  · rw [if_neg h, if_neg (by simpa using h), List.map_append]; rfl
theorem Tal.nil (v : Nat → Int) : Tal v [] [] := ⟨.nil, fun f => rfl, Nat.le_refl _⟩
theorem Tal.put {v : Nat → Int} {l : List (List Int)} {kz : List (List Int × Int)} (h : Tal v l kz) (f : List Int) (z : Int) (hz : z = v (l.count f + 1)) : Tal v (l ++ [f]) (putI kz f z) := by
  subst hz
  refine ⟨?_, fun g => ?_, ?_⟩
  · rw [putI_keys]
    split
    · exact h.nd
    · rename_i hf
      exact List.nodup_append.mpr ⟨h.nd, by simp, fun a ha b hb => by
        have : b = f := by simpa using hb
        subst this
        exact fun z => hf (z ▸ ha)⟩
  · rw [getI_put, List.count_append, h.val g]
    by_cases hg : g = f
    · subst hg; simp
    · have : ¬ f = g := fun z => hg z.symm
      rw [if_neg hg, List.count_singleton]
      simp [hg, this]
  · have := congrArg List.length (putI_keys kz f (v (l.count f + 1)))
    rw [List.length_map] at this
    rw [this, List.length_append]
    have := h.len
    split <;> simp <;> omega
theorem Tal.get {v : Nat → Int} {l : List (List Int)} {kz : List (List Int × Int)} (h : Tal v l kz) (h0 : v 0 = 0) (f : List Int) : (getI kz f).getD 0 = v (l.count f) := by
  rw [h.val f]
  split
  · rfl
  · rename_i hf
    rw [List.count_eq_zero.mpr hf, h0]; rfl
/-- its keys of odd number -/
theorem Tal.odd {v : Nat → Int} {l : List (List Int)} {kz : List (List Int × Int)} (h : Tal v l kz) {q : Int → Bool} (hq : ∀ c, q (v c) = (c % 2 == 1)) {n s : Nat} (hl : ∀ f ∈ l, f ∈ allR n s) :
    ∀ f, f ∈ (kz.map (·.1)).filter (fun f => q ((getI kz f).getD 0)) ↔ f ∈ allR n s ∧ oddP l f = true := fun f => by
  rw [List.mem_filter, getI_mem, h.val f]
  by_cases hf : f ∈ l
  · rw [if_pos hf]
    show (true = true ∧ q (v (l.count f)) = true) ↔ _
    rw [hq]
    exact ⟨fun z => ⟨hl f hf, z.2⟩, fun z => ⟨rfl, z.2⟩⟩
  · rw [if_neg hf]
    refine ⟨fun z => absurd z.1 (by simp), fun z => ?_⟩
    have := z.2
    unfold oddP at this
    rw [List.count_eq_zero.mpr hf] at this
    exact absurd this (by decide)
theorem Tal.sort {v : Nat → Int} {l : List (List Int)} {kz : List (List Int × Int)} (h : Tal v l kz) {q : Int → Bool} (hq : ∀ c, q (v c) = (c % 2 == 1)) {n s : Nat} (hn : n < 7) (hs : s < 8) (hl : ∀ f ∈ l, f ∈ allR n s) :
    SortTo ((kz.map (·.1)).filter (fun f => q ((getI kz f).getD 0))) (sel n s (oddP l)) s := sel_sort hn hs (h.nd.sublist List.filter_sublist) (h.odd hq hl)
theorem nd_rev {α : Type} {l : List α} (h : l.Nodup) : l.reverse.Nodup := l.reverse_perm.symm.nodup h
/-! ### a book is made -/
abbrev bk (n s : Nat) (rs : List (List Int)) : D := .book (n : Int) (s : Int) rs
theorem mk_tup {n s : Nat} {rs zs : List (List Int)} (hn : n < 7) (h1 : 1 ≤ s) (h2 : s ≤ n) (nd : rs.Nodup) (h : ∀ r ∈ rs, r ∈ allR n s) (hz : Sub n s zs) (hp : ∀ r ∈ allR n s, r ∈ zs ↔ r ∈ rs) : rInit [.int (n : Int), .int (s : Int), rooms rs] (n : Int) (s : Int) zs := by
  have hs : s < 8 := by omega
  have e : rs.map isort = rs := by
    rw [List.map_congr_left (g := id) fun r hr => (roomOk hn hs (h r hr)).isort, List.map_id]
  have pm : zs.Perm rs := (List.perm_ext_iff_of_nodup (hz.nd hn hs) nd).mpr fun f => ⟨fun z => (hp f (hz.subset z)).mp z, fun z => (hp f (h f z)).mpr z⟩
  refine ⟨true, rs, rfl, by omega, by omega, by omega, by omega, fun r hr => (roomOk hn hs (h r hr)).ok, by rw [e]; exact nd, ?_, by rw [e]; exact pm, hz.lt hn hs⟩
  have := hz.len hn hs
  rw [← pm.length_eq]; omega
theorem mk_sub {n s : Nat} {rs : List (List Int)} (hn : n < 7) (h1 : 1 ≤ s) (h2 : s ≤ n) (h : Sub n s rs) : rInit [.int (n : Int), .int (s : Int), rooms rs] (n : Int) (s : Int) rs :=
  mk_tup hn h1 h2 (h.nd hn (by omega)) (fun r hr => h.subset hr) h fun _ _ => Iff.rfl
theorem mk_sel {n s : Nat} {rs : List (List Int)} (hn : n < 7) (h1 : 1 ≤ s) (h2 : s ≤ n) (nd : rs.Nodup) (h : ∀ r ∈ rs, r ∈ allR n s) : rInit [.int (n : Int), .int (s : Int), rooms rs] (n : Int) (s : Int) (sel n s fun r => decide (r ∈ rs)) :=
  mk_tup hn h1 h2 nd h (sel_sub n s _) fun r hr => by rw [mem_sel]; simp [hr]
/-- the rooms in descending order, each descending -/
theorem mk_rev {n s : Nat} {rs : List (List Int)} (hn : n < 7) (h1 : 1 ≤ s) (h2 : s ≤ n) (h : Sub n s rs) : rInit [.int (n : Int), .int (s : Int), .lst ((rs.map List.reverse).reverse.map fun r => .lst (r.map D.int))] (n : Int) (s : Int) rs := by
  have hs : s < 8 := by omega
  have e : ((rs.map List.reverse).reverse).map isort = rs.reverse := by
    rw [← List.map_reverse, List.map_map]
    exact (List.map_congr_left (g := id) fun r hr => (h.ok hn hs (List.mem_reverse.mp hr)).isort_rev).trans (List.map_id _)
  refine ⟨false, (rs.map List.reverse).reverse, rfl, by omega, by omega, by omega, by omega, fun r hr => ?_, ?_, ?_, ?_, h.lt hn hs⟩
  · rw [← List.map_reverse] at hr
    obtain ⟨q, hq, rfl⟩ := List.mem_map.mp hr
    have ok := h.ok hn hs (List.mem_reverse.mp hq)
    exact ⟨by rw [List.length_reverse, ok.len], fun i hi => ok.rng i (List.mem_reverse.mp hi), nd_rev ok.nd⟩
  · rw [e]; exact nd_rev (h.nd hn hs)
  · have := h.len hn hs
    simp; omega
  · rw [e]; exact rs.reverse_perm.symm
end NA

set_option Elab.async false
set_option linter.all false
set_option maxRecDepth 100000
set_option maxHeartbeats 4000000
set_option autoImplicit false
namespace NA
open PySem PySem.Spec PyProof.Rows L2
section
variable {K : PySem.W.Frag} {C : Addr} {S S' H H' S0 H0 : Hp} {σ : L2.St} {Γ Γ' : List Sl} {E : AE}
theorem EnvOk.setFresh {i : Nat} {p : Addr} {s : Sl} (E : EnvOk K C S H σ Γ) (away : ∀ (j : Nat) (t : Sl), Γ[j]? = some t → t.mut = true → σ[j]? ≠ some (some (.ref p))) (h : SlOk K C S H (some (.ref p)) s) :
    EnvOk K C S H (σ.set i (some (.ref p))) (Γ.set i s) := by
  refine ⟨E.le, by simp [E.len], fun j t e => ?_, fun j k t t' q e1 e2 m1 m2 f1 f2 => ?_⟩
  · rw [List.getElem?_set] at e
    by_cases hij : i = j
    · subst hij
      by_cases hl : i < Γ.length
      · rw [if_pos rfl, if_pos hl] at e; cases e
        exact ⟨some (.ref p), by rw [List.getElem?_set, if_pos rfl, if_pos (by rw [E.len]; exact hl)], h⟩
      · rw [if_pos rfl, if_neg hl] at e; cases e
    · rw [if_neg hij] at e
      rw [List.getElem?_set, if_neg hij]
      exact E.ok j t e
  · rw [List.getElem?_set] at e1 e2 f1 f2
    by_cases h1 : i = j
    · subst h1
      by_cases h2 : i = k
      · exact h2
      · rw [if_neg h2] at e2 f2
        by_cases hl : i < σ.length
        · rw [if_pos rfl, if_pos hl] at f1; cases f1
          exact absurd f2 (away k t' e2 m2)
        · rw [if_pos rfl, if_neg hl] at f1; cases f1
    · rw [if_neg h1] at e1 f1
      by_cases h2 : i = k
      · subst h2
        by_cases hl : i < σ.length
        · rw [if_pos rfl, if_pos hl] at f2; cases f2
          exact absurd f1 (away j t e1 m1)
        · rw [if_pos rfl, if_neg hl] at f2; cases f2
      · rw [if_neg h2] at e2 f2
        exact E.dis j k t t' q e1 e2 m1 m2 f1 f2
/-! ### a fresh dict as the answer -/
def spM (K : PySem.W.Frag) (C : Addr) (R : List D → List (List Int × Int) → Prop) : Sp := fun vs H Q _ => ∃ S ds kz, Same S H ∧ IsL K C S vs ds ∧ R ds kz ∧ ∀ p S' H', Grow S H S' H' → H p = none → S' p = none → H' p = some (.dT (dctK kz)) → Q (.ref p) H'
theorem kvOk_kD : ∀ (kz : List (List Int × Int)), KvOk K C S (dctK kz) (kD kz)
  | [] => .nil
  | kv :: r => .cons (.int _) (kvOk_kD r)
theorem KvOk.ints : ∀ {ks : List (List L2.Key × V)} {kz : List (List Int × Int)}, KvOk K C S ks (kD kz) → ks = dctK kz
  | _, [], .nil => rfl
  | _, kv :: r, .cons i t => by
    rw [KvOk.ints t, i.int_inv]; rfl
theorem sv_asgM {R : List D → List (List Int × Int) → Prop} {X : XK} {ta : TA} {ds : List D} {kz : List (List Int × Int)} {i : Nat} (ha : EvA K C ta Γ ds) (h : R ds kz) (hn : kz.length ≤ 1000) (k : E.nx (Γ.set i (.md (kD kz)))) :
    SvE K C S0 H0 (tAsg (tCall (spM K C R) [] X ta) (gName i)) Γ E := fun Dd σ S H e kk =>
  ha σ S H e.e _ fun vs S1 H1 g1 i1 => by
    rw [List.append_nil]
    refine ⟨S1, ds, kz, g1.le, i1, h, fun p S2 H2 g2 hp hS hH => ?_⟩
    have e1 := e.grow g1
    have e2 := e1.grow g2
    have away : ∀ (j : Nat) (t : Sl), Γ[j]? = some t → t.mut = true → σ[j]? ≠ some (some (.ref p)) := fun j t ej m z => by
      obtain ⟨o, e2, q⟩ := e1.e.ok j t ej
      obtain ⟨p', u', e3, _, e4, _⟩ := q.mutAt m
      rw [e2, e3] at z; cases z
      rw [hp] at e4; cases e4
    refine kk.nx _ _ S2 H2 ⟨e2.g, e2.e.setFresh away (slmd hS hH (kvOk_kD kz) (by unfold kD; rw [List.length_map]; exact hn)), fun j t q e m f => ?_⟩ (g1.hs.trans g2.hs) k
    rw [List.getElem?_set] at e f
    by_cases hij : i = j
    · subst hij
      by_cases hl : i < σ.length
      · rw [if_pos rfl, if_pos hl] at f; cases f
        exact same_free e1.g.hh hp
      · rw [if_pos rfl, if_neg hl] at f; cases f
    · rw [if_neg hij] at e f
      exact e1.m j t q e m f
theorem retM {kz : List (List Int × Int)} {i : Nat} {Dd : Ends} {vs : List V} {R : List D → List (List Int × Int) → Prop} (e : Env K C S0 H0 S H σ Γ) (hi : Γ[i]? = some (.md (kD kz)))
    (q : ∀ p S' H', Grow S0 H0 S' H' → H0 p = none → S' p = none → H' p = some (.dT (dctK kz)) → Dd.rt (.ref p) H') : tRet (tVar i) Dd σ H := by
  obtain ⟨o, e1, p, ks, rfl, hS, hH, l, n⟩ := e.e.ok i _ hi
  rw [l.ints] at hH
  exact ⟨.ref p, e1, q p S H e.g (e.m i _ p hi rfl e1) hS hH⟩
theorem sv_tail2 {a b tail : TS} {Dd : Ends} (h : SvE K C S0 H0 (tSeq a b) Γ E) (e : Env K C S0 H0 S H σ Γ) (k : EndsOk K C S0 H0 S E { Dd with nx := tail Dd }) : (tSeq a (tSeq b tail)) Dd σ H := h _ σ S H e k
theorem sv_tail3 {a b c tail : TS} {Dd : Ends} (h : SvE K C S0 H0 (tSeq a (tSeq b c)) Γ E) (e : Env K C S0 H0 S H σ Γ) (k : EndsOk K C S0 H0 S E { Dd with nx := tail Dd }) : (tSeq a (tSeq b (tSeq c tail))) Dd σ H := h _ σ S H e k
/-! ### dicts of ints -/
variable {ty tx te : TE} {kz : List (List Int × Int)} {r : List Int} {z : Int}
theorem ev_get2 {i : Nat} {z0 : Int} (hi : Γ[i]? = some (.md (kD kz))) (h : EvE K C ty Γ (room r)) (hx : EvE K C tx Γ (.int z0)) : EvE K C (tDGet2 (tVar i) ty tx) Γ (.int ((getI kz r).getD z0)) := by
  refine ev_is (ev_dget2 hi .md h hx) ?_
  rw [kvGet_kD]
  cases getI kz r <;> rfl
theorem ev_getz {i : Nat} {s : Sl} (hi : Γ[i]? = some s) (hs : DSl s (kD kz)) (h : EvE K C ty Γ (room r)) (hv : getI kz r = some z) : EvE K C (tDGet (tVar i) ty) Γ (.int z) :=
  ev_dget hi hs h (by rw [kvGet_kD, hv]; rfl)
theorem sv_put {i : Nat} (hi : Γ[i]? = some (.md (kD kz))) (hv : EvE K C te Γ (.int z)) (h : EvE K C ty Γ (room r)) (hn : kz.length < 1000) (k : E.nx (Γ.set i (.md (kD (putI kz r z))))) : SvE K C S0 H0 (sDPut (tVar i) ty te) Γ E :=
  sv_dput hi hv h (by unfold kD; rw [List.length_map]; exact hn) (by rw [kvPut_kD]; exact k)
/-- [k for k in d if ..], d of ints -/
theorem lcRes_keys (kz : List (List Int × Int)) (f : D → Bool) (g : List Int → Bool) (hg : ∀ r, f (room r) = g r) (y : D → D) (hy : ∀ r, y (room r) = room r) : lcRes f y ((kD kz).map fun kv => room kv.1) = ((kz.map (·.1)).filter g).map room := by
  unfold lcRes kD
  rw [List.map_map]
  induction kz with
  | nil => rfl
  | cons kv t ih =>
    rw [List.map_cons, List.map_cons]
    by_cases h : g kv.1 = true
    · rw [List.filter_cons_of_pos (by simpa [hg] using h), List.filter_cons_of_pos h, List.map_cons, List.map_cons, ih]
      exact congrArg (· :: _) (hy _)
    · rw [List.filter_cons_of_neg (by simpa [hg] using h), List.filter_cons_of_neg (by simpa using h), ih]
theorem lcRes_rooms (rs : List (List Int)) (f : D → Bool) (g : List Int → Bool) (hg : ∀ r, f (room r) = g r) (y : D → D) (hy : ∀ r, y (room r) = room r) : lcRes f y (rs.map room) = (rs.filter g).map room := by
  unfold lcRes
  induction rs with
  | nil => rfl
  | cons kv t ih =>
    rw [List.map_cons]
    by_cases h : g kv = true
    · rw [List.filter_cons_of_pos (by simpa [hg] using h), List.filter_cons_of_pos h, List.map_cons, List.map_cons, ih, hy]
    · rw [List.filter_cons_of_neg (by simpa [hg] using h), List.filter_cons_of_neg (by simpa using h), ih]
/-- a room's test, as a test of data -/
def onR (g : List Int → Bool) (d : D) : Bool := match d with
  | .tup ds => g (ds.map fun x => match x with | .int i => i | _ => 0)
  | _ => false
theorem onR_room (g : List Int → Bool) (r : List Int) : onR g (room r) = g r := by
  unfold onR
  show g ((r.map D.int).map _) = g r
  rw [List.map_map]
  congr 1
  exact List.map_id _
theorem mem_kD {kv : List Int × D} (h : kv ∈ kD kz) : kv.1 ∈ kz.map (·.1) := by
  unfold kD at h
  obtain ⟨q, hq, rfl⟩ := List.mem_map.mp h
  exact List.mem_map.mpr ⟨q, hq, rfl⟩
theorem get_mem (h : r ∈ kz.map (·.1)) : ∃ z, getI kz r = some z := Option.isSome_iff_exists.mp (getI_mem.mp h)
end
/-- counting up, toggling -/
def tallyW (g : Int → Int) (l : List (List Int)) : List (List Int × Int) := l.foldl (fun kz f => putI kz f (g ((getI kz f).getD 0))) []
theorem tallyW_snoc (g : Int → Int) (l : List (List Int)) (f : List Int) : tallyW g (l ++ [f]) = putI (tallyW g l) f (g ((getI (tallyW g l) f).getD 0)) := by
  unfold tallyW; rw [List.foldl_append]; rfl
theorem snoc_ind {α : Type} {M : List α → Prop} (h0 : M []) (h1 : ∀ l x, M l → M (l ++ [x])) (l : List α) : M l := by
  have : M l.reverse.reverse := by
    induction l.reverse with
    | nil => exact h0
    | cons x r ih => rw [List.reverse_cons]; exact h1 _ _ ih
  rwa [List.reverse_reverse] at this
theorem tallyW_tal {g : Int → Int} {v : Nat → Int} (h0 : v 0 = 0) (h1 : ∀ c, v (c + 1) = g (v c)) : ∀ l, Tal v l (tallyW g l) := fun l => by
  refine snoc_ind (M := fun l => Tal v l (tallyW g l)) (.nil v) (fun l f ih => ?_) l
  rw [tallyW_snoc, ih.get h0]
  exact ih.put f _ (h1 _).symm
def cnt (l : List (List Int)) : List (List Int × Int) := tallyW (· + 1) l
def tog (l : List (List Int)) : List (List Int × Int) := tallyW (1 - ·) l
theorem cnt_tal (l : List (List Int)) : Tal (fun (c : Nat) => (c : Int)) l (cnt l) := tallyW_tal (g := (· + 1)) (v := fun (c : Nat) => (c : Int)) rfl (fun c => by simp) l
theorem tog_tal (l : List (List Int)) : Tal (fun (c : Nat) => ((c % 2 : Nat) : Int)) l (tog l) := tallyW_tal (g := (1 - ·)) (v := fun (c : Nat) => ((c % 2 : Nat) : Int)) rfl (fun c => by show _ = (1 : Int) - _; omega) l
end NA

set_option Elab.async false
set_option linter.all false
set_option maxRecDepth 100000
set_option maxHeartbeats 4000000
set_option autoImplicit false
namespace NA
open PySem PySem.Spec PyProof.Rows L2
abbrev sFaceCounts : Stmt := topS 15
abbrev nFaceCounts : List Str := ["rooms", "counts", "room", "face"]
theorem scFaceCounts : FnScope nFaceCounts ["rooms"] (defScope sFaceCounts) := ⟨rfl, rfl, rfl, by decide +kernel, rfl, by decide +kernel, by decide +kernel⟩
abbrev sBookOddFaces : Stmt := inClass (topS 14) 11
abbrev nBookOddFaces : List Str := ["self", "counts", "face"]
theorem scBookOddFaces : FnScope nBookOddFaces ["self"] (defScope sBookOddFaces) := ⟨rfl, rfl, rfl, by decide +kernel, rfl, by decide +kernel, by decide +kernel⟩
abbrev sBookIsEven : Stmt := inClass (topS 14) 9
abbrev nBookIsEven : List Str := ["self"]
theorem scBookIsEven : FnScope nBookIsEven ["self"] (defScope sBookIsEven) := ⟨rfl, rfl, rfl, by decide +kernel, rfl, by decide +kernel, by decide +kernel⟩
abbrev sBookBoundary : Stmt := inClass (topS 14) 13
abbrev nBookBoundary : List Str := ["self"]
theorem scBookBoundary : FnScope nBookBoundary ["self"] (defScope sBookBoundary) := ⟨rfl, rfl, rfl, by decide +kernel, rfl, by decide +kernel, by decide +kernel⟩
abbrev sBookXor : Stmt := inClass (topS 14) 7
abbrev nBookXor : List Str := ["self", "other", "kept", "room"]
theorem scBookXor : FnScope nBookXor ["self", "other"] (defScope sBookXor) := ⟨rfl, rfl, rfl, by decide +kernel, rfl, by decide +kernel, by decide +kernel⟩
abbrev sRoomsWithout : Stmt := topS 19
abbrev nRoomsWithout : List Str := ["places", "size", "apex", "place"]
theorem scRoomsWithout : FnScope nRoomsWithout ["places", "size", "apex"] (defScope sRoomsWithout) := ⟨rfl, rfl, rfl, by decide +kernel, rfl, by decide +kernel, by decide +kernel⟩
abbrev sEvenBookCount : Stmt := topS 21
abbrev nEvenBookCount : List Str := ["places", "size", "empty", "many", "_"]
theorem scEvenBookCount : FnScope nEvenBookCount ["places", "size"] (defScope sEvenBookCount) := ⟨rfl, rfl, rfl, by decide +kernel, rfl, by decide +kernel, by decide +kernel⟩
abbrev sBoundaryBook : Stmt := topS 24
abbrev nBoundaryBook : List Str := ["places", "corners"]
theorem scBoundaryBook : FnScope nBoundaryBook ["places", "corners"] (defScope sBoundaryBook) := ⟨rfl, rfl, rfl, by decide +kernel, rfl, by decide +kernel, by decide +kernel⟩
abbrev sCheckAlike : Stmt := topS 26
abbrev nCheckAlike : List Str := ["first", "books", "book"]
theorem scCheckAlike : FnScope nCheckAlike ["first", "books"] (defScope sCheckAlike) := ⟨rfl, rfl, rfl, by decide +kernel, rfl, by decide +kernel, by decide +kernel⟩
/-- Book's facts -/
structure Bk (K : PySem.W.Frag) (C : Addr) : Prop where
  cl : Cls K C
  naP : NoAttr K C "places"
  naS : NoAttr K C "size"
  naR : NoAttr K C "rooms"
  ha : PySem.W.findIn K (.ref C) "__class__" = some (some (.builtin "object.__class__"))
  hn : PySem.W.specialIn K (.builtin "object.__class__") "__get__" = some (some (.builtin "getset_descriptor.__get__"))
  htk : PySem.W.takesIn K (.builtin "object.__class__") = some true
  hm : PySem.W.mroIn K C (.type "object") = some true
  kit : PySem.W.kitOne K (.ref C) (.ref C) = some true
structure BOk (n s : Nat) (rs : List (List Int)) : Prop where
  n7 : n < 7
  s1 : 1 ≤ s
  sn : s ≤ n
  sub : Sub n s rs
theorem BOk.s8 {n s : Nat} {rs : List (List Int)} (h : BOk n s rs) : s < 8 := by have := h.n7; have := h.sn; omega
theorem BOk.mem {n s : Nat} {rs : List (List Int)} (h : BOk n s rs) {r : List Int} (hr : r ∈ rs) : RoomOk n s r := h.sub.ok h.n7 h.s8 hr
theorem BOk.len {n s : Nat} {rs : List (List Int)} (h : BOk n s rs) : rs.length ≤ 20 := h.sub.len h.n7 h.s8
def allF (rs : List (List Int)) : List (List Int) := rs.flatMap facesF
def oddF (n s : Nat) (rs : List (List Int)) : List (List Int) := sel n (s - 1) (oddP (allF rs))
theorem allF_len {d : Nat} : ∀ {rs : List (List Int)}, (∀ r ∈ rs, r.length = d) → (allF rs).length = rs.length * d
  | [], _ => by simp [allF]
  | r :: rs, h => by
    have ih := allF_len (rs := rs) fun q hq => h q (List.mem_cons_of_mem _ hq)
    unfold allF at ih ⊢
    rw [List.flatMap_cons, List.length_append, ih, List.length_cons, Nat.succ_mul]
    have : (facesF r).length = d := by unfold facesF; rw [List.length_map, List.length_range]; exact h r List.mem_cons_self
    omega
theorem BOk.allF {n s : Nat} {rs : List (List Int)} (h : BOk n s rs) : (allF rs).length ≤ 120 := by
  rw [allF_len (d := s) fun r hr => (h.mem hr).len]
  have h1 := h.len
  have h2 : s ≤ 6 := by have := h.n7; have := h.sn; omega
  exact Nat.mul_le_mul h1 h2
theorem BOk.faces {n s : Nat} {rs : List (List Int)} (h : BOk n s rs) : ∀ f ∈ NA.allF rs, f ∈ allR n (s - 1) := fun f hf => by
  obtain ⟨r, hr, hf⟩ := List.mem_flatMap.mp hf
  obtain ⟨t, rfl⟩ : ∃ t, s = t + 1 := ⟨s - 1, by have := h.s1; omega⟩
  have h1 := h.n7
  have h2 := h.sn
  exact allR_face h.n7 (by omega) (h.sub.subset hr) hf
theorem take_flat {rs : List (List Int)} {i : Nat} {r : List Int} (h : rs[i]? = some r) : allF (rs.take (i + 1)) = allF (rs.take i) ++ facesF r := by
  unfold allF; rw [take_snoc h, List.flatMap_append]; simp
def rFC : List D → List (List Int × Int) → Prop := fun ds kz => ∃ (n s : Nat) (rs : List (List Int)), BOk n s rs ∧ ds = [trooms rs] ∧ kz = cnt (allF rs)
def rOdd : List D → D → Prop := fun ds d => ∃ (n s : Nat) (rs : List (List Int)), BOk n s rs ∧ ds = [bk n s rs] ∧ d = rooms (oddF n s rs)
def rEven : List D → D → Prop := fun ds d => ∃ (n s : Nat) (rs : List (List Int)), BOk n s rs ∧ ds = [bk n s rs] ∧ d = .bl (decide (oddF n s rs = []))
def rBound : List D → D → Prop := fun ds d => ∃ (n s : Nat) (rs : List (List Int)), BOk n (s + 1) rs ∧ 1 ≤ s ∧ ds = [bk n (s + 1) rs] ∧ d = bk n s (oddF n (s + 1) rs)
def rEmpty (C : Addr) : List D → D → Prop := fun ds d => ∃ (n s : Nat), BOk n s [] ∧ ds = [.raw (.ref C), .int (n : Int), .int (s : Int)] ∧ d = bk n s []
def xorR (n s : Nat) (rs qs : List (List Int)) : List (List Int) := sel n s fun r => decide (r ∈ rs) ^^ decide (r ∈ qs)
def rXor : List D → D → Prop := fun ds d => ∃ (n s : Nat) (rs qs : List (List Int)), BOk n s rs ∧ BOk n s qs ∧ ds = [bk n s rs, bk n s qs] ∧ d = bk n s (xorR n s rs qs)
def woR (n s : Nat) (p : Int) : List (List Int) := subsF ((upI n).filter fun i => decide (i ≠ p)) s
def rWithout : List D → D → Prop := fun ds d => ∃ (n s : Nat) (p : Int), n < 7 ∧ s ≤ 6 ∧ ds = [.int (n : Int), .int (s : Int), .int p] ∧ d = rooms (woR n s p)
def rCount : List D → D → Prop := fun ds d => ∃ (n s : Nat), BOk n s [] ∧ ds = [.int (n : Int), .int (s : Int)] ∧ d = .int (2 ^ (PySem.W.mcComb ((n : Int) - 1) (s : Int)).toNat)
def rBB : List D → D → Prop := fun ds d => ∃ (n s : Nat) (c : List Int), n < 7 ∧ 1 ≤ s ∧ s < n ∧ c ∈ allR n (s + 1) ∧ ds = [.int (n : Int), room c] ∧ d = bk n s (oddF n (s + 1) [c])
def rAlike : List D → D → Prop := fun ds d => ∃ (n s : Nat) (r0 : List (List Int)) (rss : List (List (List Int))), ds = [bk n s r0, .lst (rss.map fun rs => bk n s rs)] ∧ d = .non
theorem oddF_sub (n s : Nat) (rs : List (List Int)) : Sub n (s - 1) (oddF n s rs) := sel_sub _ _ _
section
variable {P : Program} {w : World} {K : PySem.W.Frag} {mg : Str → Option Value} {base : Heap} {C : Addr}
theorem ok_face_counts {k : Nat} {f : Addr} {fd : FuncData} (F : Fun K "face_counts" "face_counts" sFaceCounts f fd) (B : Bl mg) (D_faces : Def P w K mg base CX0 k "faces" ["room"] (spR K C rFaces)) : FnOk P w K mg base CX0 (k + 1) f fd ["rooms"] (spM K C rFC) := by
  refine F.ok scFaceCounts (fun vs H Q E h => ?_) (fun cdv A outer st H vs Q E hr h => ?_)
  · obtain ⟨S, ds, kz, _, l, ⟨n, s, rs, _, rfl, _⟩, _⟩ := h
    exact l.length
  · obtain ⟨S, ds, kz, e, l, ⟨n, s, rs, ok, rfl, rfl⟩, q⟩ := h
    refine ⟨_, (pss_cons (ps_set (i := 1) scFaceCounts.nd rfl (.inl rfl) pe_dnewT)
      (pss_cons (ps_for PassesOwn.never (by rfl) (pi_tup (pv 0)) (pg_name (i := 2) scFaceCounts.nd rfl (.inl rfl))
       (pss_one (ps_for PassesOwn.never (by rfl) (pi_list (pe_cd D_faces (hr.mono (by omega)) (by rfl) pass0 (pa_cons (pv 2) pa_nil))) (pg_name (i := 3) scFaceCounts.nd rfl (.inl rfl))
        (pss_one (ps_dput (hu_of hr) (pv 1) (pv 3) (pe_op op_add (pe_dget2 (hu_of hr) (pv 1) (pv 3) pe_int ⟨rfl, rfl, rfl, rfl⟩) pe_int) rfl)))))
      (pss_one (ps_ret (pv 1))))), ?_⟩
    refine sv_tail2 (K := K) (C := C) (S := S) (S0 := S) (H0 := H) (Γ := Γ0 nFaceCounts [trooms rs]) (E := { nx := fun Γ => ∃ s2 s3, Γ = [.val (trooms rs), .md (kD (cnt (allF rs))), s2, s3] }) ?_ (Env0 e l) ⟨fun Γ σ S1 H1 ev _ hΓ => ?_, fun _ _ _ _ _ _ z => z.elim, fun _ _ _ _ _ _ z => z.elim, fun _ _ _ _ _ _ z => z.elim⟩
    · refine sv_seq (sv_dnew ?_)
      refine sv_forT (ds := rs.map room) (fun i Γ => ∃ s2 s3, Γ = [.val (trooms rs), .md (kD (cnt (allF (rs.take i)))), s2, s3]) (ev_var rfl) ⟨_, _, rfl⟩ (fun i d Γ1 hd hI => ?_) (fun Γ1 hI => ?_)
      · obtain ⟨s2, s3, rfl⟩ := hI
        rw [List.getElem?_map] at hd
        cases hr' : rs[i]? with
        | none => rw [hr'] at hd; cases hd
        | some r =>
          rw [hr'] at hd; cases hd
          have rok := ok.mem (List.mem_of_getElem? hr')
          have h6 : s ≤ 6 := by have := ok.n7; have := ok.sn; omega
          refine step_name ?_
          refine sv_forL (ds := (facesF r).map room) (fun j Γ => ∃ s3, Γ = [.val (trooms rs), .md (kD (cnt (allF (rs.take i) ++ (facesF r).take j))), .val (room r), s3]) (ev_call0 (ea_cons (ev_var rfl) ea_nil) ⟨r, rfl, by rw [rok.len]; omega, rfl⟩) ⟨s3, by rw [List.take_zero, List.append_nil]; rfl⟩ (fun j d Γ1 hd hI => ?_) (fun Γ1 hI => ?_)
          · obtain ⟨s3, rfl⟩ := hI
            rw [List.getElem?_map] at hd
            cases hf : (facesF r)[j]? with
            | none => rw [hf] at hd; cases hd
            | some g =>
              rw [hf] at hd; cases hd
              have hlen : (cnt (allF (rs.take i) ++ (facesF r).take j)).length < 1000 := by
                have h1 := (cnt_tal (allF (rs.take i) ++ (facesF r).take j)).len
                have h2 : (allF (rs.take (i + 1))).length ≤ 120 := BOk.allF ⟨ok.n7, ok.s1, ok.sn, (List.take_sublist _ _).trans ok.sub⟩
                rw [take_flat hr', List.length_append] at h2
                rw [List.length_append, List.length_take] at h1
                omega
              refine step_name (sv_put rfl (ev_op (ev_get2 rfl (ev_var rfl) ev_int) ev_int rv_I0) (ev_var rfl) hlen ⟨.val (room g), ?_⟩)
              rw [take_snoc hf, ← List.append_assoc]
              unfold cnt
              rw [tallyW_snoc]; rfl
          · obtain ⟨s3, rfl⟩ := hI
            rw [List.length_map, List.take_length, ← take_flat hr']
            exact ⟨_, s3, rfl⟩
      · obtain ⟨s2, s3, rfl⟩ := hI
        rw [List.length_map, List.take_length]
        exact ⟨s2, s3, rfl⟩
    · obtain ⟨s2, s3, rfl⟩ := hΓ
      exact retM (R := rFC) (vs := vs) ev rfl fun p S' H' g a1 a2 a3 => q p S' H' g a1 a2 a3
theorem ok_odd_faces {k : Nat} {f : Addr} {fd : FuncData} (F : Fun K "odd_faces" "Book.odd_faces" sBookOddFaces f fd) (B : Bl mg) (bf : Bk K C) (D_face_counts : Def P w K mg base CX0 k "face_counts" ["rooms"] (spM K C rFC)) : FnOk P w K mg base CX0 (k + 1) f fd ["self"] (spR K C rOdd) := by
  refine fn_ev F scBookOddFaces (fun ds d h => by obtain ⟨n, s, rs, _, rfl, _⟩ := h; rfl) (fun ds d h cdv A outer st H E hr => ?_)
  obtain ⟨n, s, rs, ok, rfl, rfl⟩ := h
  refine ⟨_, (pss_cons (ps_set (i := 1) scBookOddFaces.nd rfl (.inr rfl) (pe_cd D_face_counts (hr.mono (by omega)) (by rfl) pass0 (pa_cons (kFld K (pv 0)) pa_nil)))
      (pss_one (ps_ret (pe_callB NAX.cr_sortRL (by rfl) B.sorted (by decide +kernel) (pa_cons (pe_lock (pe_lc (own := [("face", 2)]) (g := gName 2) (by rfl) scBookOddFaces.nd (pi_keys (pv 1)) (blkOk_by (own := [("face", 2)]) (N := nBookOddFaces) (sc := defScope sBookOddFaces) (by decide +kernel)) (fun _ _ _ _ _ => (pg_name (i := 2) scBookOddFaces.nd rfl (.inl rfl))) (fun _ _ _ _ _ => (pts_one (pt_cmpR op_eq (pe_op op_modN (pe_dget (hu_of hr) (pv 1) (pv 2) (fun _ _ => rfl)) pe_int) pe_int (nomark _)))) (fun _ _ _ _ _ => (pv 2)))) pa_nil))))), fun S0 H0 => ?_⟩
  have hc := cnt_tal (allF rs)
  have hl := ok.allF
  refine sv_seq (sv_asgM (ea_cons (ev_fldR bf.cl bf.naR (ev_var rfl)) ea_nil) ⟨n, s, rs, ok, rfl, rfl⟩ (by have := hc.len; omega) ?_)
  have srt := hc.sort (q := fun z => decide (z.fmod 2 = 1)) (fun c => by
    show decide (((c : Int)).fmod 2 = 1) = _
    rw [Int.fmod_eq_emod_of_nonneg _ (by decide)]
    rw [Bool.eq_iff_iff, decide_eq_true_eq, beq_iff_eq]; omega) ok.n7 (show s - 1 < 8 by have := ok.s8; omega) ok.faces
  refine sv_ret (ev_cb (ea_cons (ev_is (ev_lcD (kvs := kD (cnt (allF rs))) rfl (onR fun f => decide (((getI (cnt (allF rs)) f).getD 0).fmod 2 = 1)) id (fun kv h => ?_) (fun kv h => ?_)) ?_) ea_nil) (rc_sortRL srt)) rfl
  · have h1 := mem_kD h
    rw [getI_mem, hc.val] at h1
    split at h1
    · rename_i hm
      have := (roomOk ok.n7 (show s - 1 < 8 by have := ok.s8; omega) (ok.faces _ hm)).len
      have := ok.s8; omega
    · cases h1
  · obtain ⟨z, hz⟩ := get_mem (mem_kD h)
    refine cstep_name (by simp) ?_ (fun _ => ev_var rfl)
    refine et_is (et_test (ev_op (ev_op (ev_getz rfl .fd (ev_var rfl) hz) ev_int (rv_I (by decide))) ev_int rv_eqI)) ?_
    rw [onR_room, hz]; rfl
  · exact congrArg D.lst (lcRes_keys (cnt (allF rs)) _ _ (onR_room _) id fun _ => rfl)
theorem ok_is_even {k : Nat} {f : Addr} {fd : FuncData} (F : Fun K "is_even" "Book.is_even" sBookIsEven f fd) (B : Bl mg) (M_odd_faces : MDef P w K mg base CX0 k C "odd_faces" ["self"] (spR K C rOdd)) : FnOk P w K mg base CX0 (k + 1) f fd ["self"] (spR K C rEven) := by
  refine fn_ev F scBookIsEven (fun ds d h => by obtain ⟨n, s, rs, _, rfl, _⟩ := h; rfl) (fun ds d h cdv A outer st H E hr => ?_)
  obtain ⟨n, s, rs, ok, rfl, rfl⟩ := h
  refine ⟨_, (pss_one (ps_ret (pe_cmpR op_eq (pe_callB (kLen K) (by rfl) B.len (by decide +kernel) (pa_cons (pe_md0 M_odd_faces (hr.mono (by omega)) pass0 (pv 0)) pa_nil)) pe_int (nomark _)))), fun S0 H0 => ?_⟩
  refine sv_ret (ev_is (ev_op (ev_cb (ea_cons (ev_meth rfl (ev_var rfl) ea_nil ⟨n, s, rs, ok, rfl, rfl⟩) ea_nil) rc_lenL) ev_int rv_eqI) ?_) rfl
  rw [List.length_map]
  congr 1
  rw [decide_eq_decide, ← List.length_eq_zero_iff]
  omega
theorem ok_boundary {k : Nat} {f : Addr} {fd : FuncData} (F : Fun K "boundary" "Book.boundary" sBookBoundary f fd) (B : Bl mg) (bf : Bk K C) (gC : mg "Book" = some (.ref C)) (KB : KDef P w K mg base CX0 k C "Book" ["self", "places", "size", "rooms"] (spI K C rInit)) (M_odd_faces : MDef P w K mg base CX0 k C "odd_faces" ["self"] (spR K C rOdd)) : FnOk P w K mg base CX0 (k + 2) f fd ["self"] (spR K C rBound) := by
  refine fn_ev F scBookBoundary (fun ds d h => by obtain ⟨n, s, rs, _, _, rfl, _⟩ := h; rfl) (fun ds d h cdv A outer st H E hr => ?_)
  obtain ⟨n, s, rs, ok, h1, rfl, rfl⟩ := h
  refine ⟨_, (pss_cons (ps_if (pt_cmpR op_eq (kFld K (pv 0)) pe_int (nomark _)) (pss_one ps_never) pss_nil)
      (pss_one (ps_ret (pe_kd KB (hr.mono (by omega)) (by rfl) pass0 (pa_cons (kFld K (pv 0)) (pa_cons (pe_op op_sub (kFld K (pv 0)) pe_int) (pa_cons (pe_md0 M_odd_faces (hr.mono (by omega)) pass0 (pv 0)) pa_nil))))))), fun S0 H0 => ?_⟩
  refine sv_seq (sv_if (et_test (ev_op (ev_fldS bf.cl bf.naS (ev_var rfl)) ev_int rv_eqI)) (fun z => ?_) (fun _ => sv_next ?_))
  · have := of_decide_eq_true z; omega
  refine sv_ret (ev_make (ea_cons (ev_fldN bf.cl bf.naP (ev_var rfl)) (ea_cons (ev_is (ev_op (ev_fldS bf.cl bf.naS (ev_var rfl)) ev_int rv_I0) (d := .int (s : Int)) ?_) (ea_cons (ev_meth rfl (ev_var rfl) ea_nil ⟨n, s + 1, rs, ok, rfl, rfl⟩) ea_nil))) (mk_sub ok.n7 h1 (by have := ok.sn; omega) (oddF_sub n (s + 1) rs))) rfl
  exact congrArg D.int (by omega)
theorem ok_empty {k : Nat} {f : Addr} {fd : FuncData} (F : Fun K "empty" "Book.empty" sBookEmpty f fd) (KB : KDef P w K mg base CX0 k C "Book" ["self", "places", "size", "rooms"] (spI K C rInit)) : FnOk P w K mg base CX0 (k + 2) f fd ["cls", "places", "size"] (spR K C (rEmpty C)) := by
  refine fn_ev F scBookEmpty (fun ds d h => by obtain ⟨n, s, _, rfl, _⟩ := h; rfl) (fun ds d h cdv A outer st H E hr => ?_)
  obtain ⟨n, s, ok, rfl, rfl⟩ := h
  refine ⟨_, (pss_one (ps_ret (pe_kdL (i := 0) KB (hr.mono (by omega)) pass0 (pa_cons (pv 1) (pa_cons (pv 2) (pa_cons (pe_lst pa_nil) pa_nil))) rfl (.inl rfl)))), fun S0 H0 => ?_⟩
  exact sv_ret (ev_makeL rfl (ea_cons (ev_var rfl) (ea_cons (ev_var rfl) (ea_cons (ev_lst ea_nil (by simp)) ea_nil))) (mk_sub (rs := []) ok.n7 ok.s1 ok.sn ok.sub)) rfl
theorem ok_xor {k : Nat} {f : Addr} {fd : FuncData} (F : Fun K "__xor__" "Book.__xor__" sBookXor f fd) (B : Bl mg) (bf : Bk K C) (gC : mg "Book" = some (.ref C)) (KB : KDef P w K mg base CX0 k C "Book" ["self", "places", "size", "rooms"] (spI K C rInit)) : FnOk P w K mg base CX0 (k + 2) f fd ["self", "other"] (spR K C rXor) := by
  refine fn_ev F scBookXor (fun ds d h => by obtain ⟨n, s, rs, qs, _, _, rfl, _⟩ := h; rfl) (fun ds d h cdv A outer st H E hr => ?_)
  obtain ⟨n, s, rs, qs, ok, ok', rfl, rfl⟩ := h
  refine ⟨_, (pss_cons (ps_if (pt_not (pt_val (pe_callB call_isi (by rfl) B.isinstance (by decide +kernel) (pa_cons (pv 1) (pa_cons (pe_glob (v := .ref C) (by rfl) gC rfl) pa_nil))))) (pss_one ps_never) pss_nil)
      (pss_cons (ps_if (pt_cmpR op_ne (kFld K (pv 0)) (kFld K (pv 1)) (nomark _)) (pss_one ps_never) pss_nil)
      (pss_cons (ps_if (pt_cmpR op_ne (kFld K (pv 0)) (kFld K (pv 1)) (nomark _)) (pss_one ps_never) pss_nil)
      (pss_cons (ps_setLc (i := 2) (own := [("room", 3)]) (g := gName 3) (by rfl) scBookXor.nd rfl rfl (sw_true rfl rfl rfl (by decide +kernel)) (pi_tup (kFld K (pv 0))) (blkOk_by (own := [("room", 3)]) (N := nBookXor) (sc := defScope sBookXor) (by decide +kernel)) (fun _ _ _ _ _ => (pg_name (i := 3) scBookXor.nd rfl (.inl rfl))) (fun _ _ _ _ _ => (pts_one (pt_cmpR (kNotInDT K (hu65_of hr)) (pv 3) (kFld K (pv 1)) (by rfl)))) (fun _ _ _ _ _ => (pv 3)))
      (pss_one (ps_ret (pe_kd KB (hr.mono (by omega)) (by rfl) pass0 (pa_cons (kFld K (pv 0)) (pa_cons (kFld K (pv 0)) (pa_cons (pe_op op_cat (pv 2) (pe_lc (own := [("room", 3)]) (g := gName 3) (by rfl) scBookXor.nd (pi_tup (kFld K (pv 1))) (blkOk_by (own := [("room", 3)]) (N := nBookXor) (sc := defScope sBookXor) (by decide +kernel)) (fun _ _ _ _ _ => (pg_name (i := 3) scBookXor.nd rfl (.inl rfl))) (fun _ _ _ _ _ => (pts_one (pt_cmpR (kNotInDT K (hu65_of hr)) (pv 3) (kFld K (pv 0)) (by rfl)))) (fun _ _ _ _ _ => (pv 3)))) pa_nil)))))))))), fun S0 H0 => ?_⟩
  refine sv_seq (sv_if (et_not (et_B (ev_cb (ea_cons (ev_var rfl) (ea_cons ev_raw ea_nil)) (rc_isi (.book _ _ _ bf.cl bf.ha bf.hn bf.htk bf.hm) (.own C) bf.kit)))) (fun z => by cases z) (fun _ => sv_next ?_))
  refine sv_seq (sv_if (et_test (ev_op (ev_fldN bf.cl bf.naP (ev_var rfl)) (ev_fldN bf.cl bf.naP (ev_var rfl)) rv_neI)) (fun z => by simp at z) (fun _ => sv_next ?_))
  refine sv_seq (sv_if (et_test (ev_op (ev_fldS bf.cl bf.naS (ev_var rfl)) (ev_fldS bf.cl bf.naS (ev_var rfl)) rv_neI)) (fun z => by simp at z) (fun _ => sv_next ?_))
  refine sv_seq (sv_asg (ev_is (ev_lcT (onR fun r => !decide (r ∈ qs)) id (ev_fldR bf.cl bf.naR (ev_var rfl)) (fun d hd => ?_)) (congrArg D.lst (lcRes_rooms rs _ _ (onR_room _) id fun _ => rfl))) ?_)
  · obtain ⟨r, hr', rfl⟩ := List.mem_map.mp hd
    refine cstep_name (by simp) (et_is (et_test (ev_op (ev_var rfl) (ev_fldR bf.cl bf.naR (ev_var rfl)) rv_notInDT)) ?_) (fun _ => ev_var rfl)
    rw [onR_room]
  have h1 := ok.len
  have h2 := ok'.len
  refine sv_ret (ev_make (rs := xorR n s rs qs) (ea_cons (ev_fldN bf.cl bf.naP (ev_var rfl)) (ea_cons (ev_fldS bf.cl bf.naS (ev_var rfl)) (ea_cons (ev_is (ev_op (ev_var rfl) (ev_is (ev_lcT (onR fun r => !decide (r ∈ rs)) id (ev_fldR bf.cl bf.naR (ev_var rfl)) (fun d hd => ?_)) (congrArg D.lst (lcRes_rooms qs _ _ (onR_room _) id fun _ => rfl))) (rv_catL ?_)) (d := rooms (rs.filter (fun r => !decide (r ∈ qs)) ++ qs.filter (fun r => !decide (r ∈ rs)))) ?_) ea_nil))) ?_) rfl
  · obtain ⟨r, hr', rfl⟩ := List.mem_map.mp hd
    refine cstep_name (by simp) (et_is (et_test (ev_op (ev_var rfl) (ev_fldR bf.cl bf.naR (ev_var rfl)) rv_notInDT)) ?_) (fun _ => ev_var rfl)
    rw [onR_room]
  · rw [List.length_map, List.length_map]
    have h3 := List.length_filter_le (fun r => !decide (r ∈ qs)) rs
    have h4 := List.length_filter_le (fun r => !decide (r ∈ rs)) qs
    omega
  · exact congrArg D.lst (List.map_append ..).symm
  · refine mk_tup ok.n7 ok.s1 ok.sn ?_ (fun r hr' => ?_) (sel_sub _ _ _) (fun r hr' => ?_)
    · refine List.nodup_append.mpr ⟨(ok.sub.nd ok.n7 ok.s8).sublist List.filter_sublist, (ok'.sub.nd ok.n7 ok.s8).sublist List.filter_sublist, fun a ha b hb => ?_⟩
      rintro rfl
      have h3 := (List.mem_filter.mp ha)
      have h4 := (List.mem_filter.mp hb)
      simp [h3.1] at h4
    · rcases List.mem_append.mp hr' with z | z
      · exact ok.sub.subset (List.mem_filter.mp z).1
      · exact ok'.sub.subset (List.mem_filter.mp z).1
    · unfold xorR
      rw [mem_sel, List.mem_append, List.mem_filter, List.mem_filter]
      by_cases ha : r ∈ rs <;> by_cases hb : r ∈ qs <;> simp [ha, hb, hr']
def onI (g : Int → Bool) (d : D) : Bool := match d with
  | .int i => g i
  | _ => false
theorem upTo_eq (n : Nat) : upTo n = (upI n).map D.int := by unfold upTo upI; rw [List.map_map]; rfl
theorem lcRes_ints (rs : List Int) (f : D → Bool) (g : Int → Bool) (hg : ∀ r, f (.int r) = g r) (y : D → D) (hy : ∀ r, y (.int r) = .int r) : lcRes f y (rs.map D.int) = (rs.filter g).map D.int := by
  unfold lcRes
  induction rs with
  | nil => rfl
  | cons kv t ih =>
    rw [List.map_cons]
    by_cases h : g kv = true
    · rw [List.filter_cons_of_pos (by simpa [hg] using h), List.filter_cons_of_pos h, List.map_cons, List.map_cons, ih, hy]
    · rw [List.filter_cons_of_neg (by simpa [hg] using h), List.filter_cons_of_neg (by simpa using h), ih]
theorem upI_len (n : Nat) : (upI n).length = n := by unfold upI; simp
theorem ok_rooms_without {k : Nat} {f : Addr} {fd : FuncData} (F : Fun K "rooms_without" "rooms_without" sRoomsWithout f fd) (B : Bl mg) (D_subsets : Def P w K mg base CX0 k "subsets" ["items", "size"] (spR K C (rSubs 6))) : FnOk P w K mg base CX0 (k + 1) f fd ["places", "size", "apex"] (spR K C rWithout) := by
  refine fn_ev F scRoomsWithout (fun ds d h => by obtain ⟨n, s, p, _, _, rfl, _⟩ := h; rfl) (fun ds d h cdv A outer st H E hr => ?_)
  obtain ⟨n, s, p, h1, h2, rfl, rfl⟩ := h
  refine ⟨_, (pss_one (ps_ret (pe_cd D_subsets (hr.mono (by omega)) (by rfl) pass0 (pa_cons (pe_callTy cr_tup (by rfl) B.tuple (by decide +kernel) (pa_cons (pe_lc (own := [("place", 3)]) (g := gName 3) (by rfl) scRoomsWithout.nd (pi_range1 (by rfl) B.range (pa_cons (pv 0) pa_nil)) (blkOk_by (own := [("place", 3)]) (N := nRoomsWithout) (sc := defScope sRoomsWithout) (by decide +kernel)) (fun _ _ _ _ _ => (pg_name (i := 3) scRoomsWithout.nd rfl (.inl rfl))) (fun _ _ _ _ _ => (pts_one (pt_cmpR op_ne (pv 3) (pv 2) (nomark _)))) (fun _ _ _ _ _ => (pv 3))) pa_nil)) (pa_cons (pv 1) pa_nil))))), fun S0 H0 => ?_⟩
  refine sv_ret (ev_call0 (ea_cons (ev_cb (ea_cons (ev_is (ev_lcR (n := (n : Int)) (onI fun i => decide (i ≠ p)) id (ea_cons (ev_var rfl) ea_nil) (by omega) (fun i hi => ?_)) (d := .lst (((upI n).filter fun i => decide (i ≠ p)).map D.int)) ?_) ea_nil) rc_tupL) (ea_cons (ev_var rfl) ea_nil)) ⟨_, s, rfl, ?_, h2, h2, rfl⟩) rfl
  · refine cstep_name (by simp) (et_is (et_test (ev_op (ev_var rfl) (ev_var rfl) rv_neI)) ?_) (fun _ => ev_var rfl)
    show _ = decide ((i : Int) ≠ p)
    by_cases h : (i : Int) = p <;> simp [h]
  · rw [Int.toNat_natCast, upTo_eq]
    exact congrArg D.lst (lcRes_ints (upI n) _ _ (fun _ => rfl) id fun _ => rfl)
  · have := List.length_filter_le (fun i => decide (i ≠ p)) (upI n)
    rw [upI_len] at this; omega
theorem comb_le : ∀ n : Nat, n < 7 → ∀ s : Nat, s < 7 → 0 ≤ PySem.W.mcComb ((n : Int) - 1) (s : Int) ∧ PySem.W.mcComb ((n : Int) - 1) (s : Int) ≤ 20 := by decide +kernel
theorem ok_even_book_count {k : Nat} {f : Addr} {fd : FuncData} (F : Fun K "even_book_count" "even_book_count" sEvenBookCount f fd) (B : Bl mg) (bf : Bk K C) (gC : mg "Book" = some (.ref C)) (KB : KDef P w K mg base CX0 k C "Book" ["self", "places", "size", "rooms"] (spI K C rInit)) : FnOk P w K mg base CX0 (k + 2) f fd ["places", "size"] (spR K C rCount) := by
  refine fn_ev F scEvenBookCount (fun ds d h => by obtain ⟨n, s, _, rfl, _⟩ := h; rfl) (fun ds d h cdv A outer st H E hr => ?_)
  obtain ⟨n, s, ok, rfl, rfl⟩ := h
  have hn := ok.n7
  have hs := ok.sn
  have h1 := ok.s1
  have hc := comb_le n hn s (by omega)
  refine ⟨_, (pss_cons (ps_set (i := 2) scEvenBookCount.nd rfl (.inl rfl) (pe_kd KB (hr.mono (by omega)) (by rfl) pass0 (pa_cons (pv 0) (pa_cons (pv 1) (pa_cons (pe_lst pa_nil) pa_nil)))))
      (pss_cons (ps_set (i := 3) scEvenBookCount.nd rfl (.inl rfl) pe_int)
      (pss_cons (ps_for PassesOwn.never (by rfl) (pi_range1 (by rfl) B.range (pa_cons (pe_callMB NAX.cr_comb (by rfl) B.comb (pa_cons (pe_op op_sub (kFld K (pv 2)) pe_int) (pa_cons (pv 1) pa_nil))) pa_nil)) (pg_name (i := 4) scEvenBookCount.nd rfl (.inl rfl))
       (pss_one (ps_aug (i := 3) scEvenBookCount.nd rfl (.inl rfl) pe_int ip_mul)))
      (pss_one (ps_ret (pv 3)))))), fun S0 H0 => ?_⟩
  refine sv_seq (sv_asg (ev_make (rs := []) (ea_cons (ev_var rfl) (ea_cons (ev_var rfl) (ea_cons (ev_lst ea_nil (by simp)) ea_nil))) (mk_sub (rs := []) ok.n7 ok.s1 ok.sn ok.sub)) ?_)
  refine sv_seq (sv_asg ev_int ?_)
  refine sv_seq (sv_forR (n := PySem.W.mcComb ((n : Int) - 1) (s : Int)) (fun i Γ => ∃ s4, Γ = [.val (.int (n : Int)), .val (.int (s : Int)), .val (bk n s []), .val (.int (2 ^ i)), s4]) (ea_cons (ev_cb (ea_cons (ev_op (ev_fldN bf.cl bf.naP (ev_var rfl)) ev_int rv_I0) (ea_cons (ev_var rfl) ea_nil)) (rc_comb (by omega))) ea_nil) (by omega) ⟨_, rfl⟩ (fun i Γ1 hi hI => ?_) (fun Γ1 hI => ?_))
  · obtain ⟨s4, rfl⟩ := hI
    refine step_name (sv_augR rfl ev_int (.inr (by decide)) ⟨.val (.int (i : Int)), ?_⟩)
    rw [Int.pow_succ]; rfl
  · obtain ⟨s4, rfl⟩ := hI
    exact sv_ret (ev_var rfl) rfl
theorem ok_boundary_book {k : Nat} {f : Addr} {fd : FuncData} (F : Fun K "boundary_book" "boundary_book" sBoundaryBook f fd) (B : Bl mg) (gC : mg "Book" = some (.ref C)) (KB : KDef P w K mg base CX0 k C "Book" ["self", "places", "size", "rooms"] (spI K C rInit)) (M_boundary : MDef P w K mg base CX0 k C "boundary" ["self"] (spR K C rBound)) : FnOk P w K mg base CX0 (k + 2) f fd ["places", "corners"] (spR K C rBB) := by
  refine fn_ev F scBoundaryBook (fun ds d h => by obtain ⟨n, s, c, _, _, _, _, rfl, _⟩ := h; rfl) (fun ds d h cdv A outer st H E hr => ?_)
  obtain ⟨n, s, c, hn, h1, hs, hc, rfl, rfl⟩ := h
  have cok := roomOk hn (by omega) hc
  have hl := cok.len
  have sub : Sub n (s + 1) [c] := List.singleton_sublist.mpr hc
  refine ⟨_, (pss_cons (ps_if (pt_cmpR op_lt (pe_callB (kLen K) (by rfl) B.len (by decide +kernel) (pa_cons (pv 1) pa_nil)) pe_int (nomark _)) (pss_one ps_never) pss_nil)
      (pss_one (ps_ret (pe_md0 M_boundary (hr.mono (by omega)) pass0 (pe_kd KB (hr.mono (by omega)) (by rfl) pass0 (pa_cons (pv 0) (pa_cons (pe_callB (kLen K) (by rfl) B.len (by decide +kernel) (pa_cons (pv 1) pa_nil)) (pa_cons (pe_lst (pa_cons (pv 1) pa_nil)) pa_nil)))))))), fun S0 H0 => ?_⟩
  refine sv_seq (sv_if (et_test (ev_op (ev_cb (ea_cons (ev_var rfl) ea_nil) rc_lenT) ev_int rv_B0)) (fun z => ?_) (fun _ => sv_next ?_))
  · rw [List.length_map] at z
    have := of_decide_eq_true z; omega
  refine sv_ret (ev_meth rfl (ev_make (n := (n : Int)) (s := ((s + 1 : Nat) : Int)) (rs := [c]) (ea_cons (ev_var rfl) (ea_cons (ev_is (ev_cb (ea_cons (ev_var rfl) ea_nil) rc_lenT) (d := .int ((s + 1 : Nat) : Int)) ?_) (ea_cons (ev_lst (ea_cons (ev_var rfl) ea_nil) (by simp)) ea_nil))) (mk_sub (rs := [c]) hn (by omega) (by omega) sub)) ea_nil ⟨n, s, [c], ⟨hn, by omega, by omega, sub⟩, h1, rfl, rfl⟩) rfl
  rw [List.length_map, hl]
theorem ok_check_alike {k : Nat} {f : Addr} {fd : FuncData} (F : Fun K "check_alike" "check_alike" sCheckAlike f fd) (bf : Bk K C) : FnOk P w K mg base CX0 (k + 1) f fd ["first", "books"] (spR K C rAlike) := by
  refine fn_ev F scCheckAlike (fun ds d h => by obtain ⟨n, s, r0, rss, rfl, _⟩ := h; rfl) (fun ds d h cdv A outer st H E hr => ?_)
  obtain ⟨n, s, r0, rss, rfl, rfl⟩ := h
  refine ⟨_, (pss_one (ps_for PassesOwn.never (by rfl) (pi_list (pv 1)) (pg_name (i := 2) scCheckAlike.nd rfl (.inl rfl))
       (pss_cons (ps_if (pt_cmpR op_ne (kFld K (pv 2)) (kFld K (pv 0)) (nomark _)) (pss_one ps_never) pss_nil)
       (pss_one (ps_if (pt_cmpR op_ne (kFld K (pv 2)) (kFld K (pv 0)) (nomark _)) (pss_one ps_never) pss_nil))))), fun S0 H0 => ?_⟩
  refine sv_forL (ds := rss.map fun rs => bk n s rs) (fun i Γ => ∃ s2, Γ = [.val (bk n s r0), .val (.lst (rss.map fun rs => bk n s rs)), s2]) (ev_var rfl) ⟨_, rfl⟩ (fun i d Γ1 hd hI => ?_) (fun Γ1 hI => rfl)
  obtain ⟨s2, rfl⟩ := hI
  rw [List.getElem?_map] at hd
  cases hr' : rss[i]? with
  | none => rw [hr'] at hd; cases hd
  | some rs =>
    rw [hr'] at hd; cases hd
    refine step_name (sv_seq (sv_if (et_test (ev_op (ev_fldN bf.cl bf.naP (ev_var rfl)) (ev_fldN bf.cl bf.naP (ev_var rfl)) rv_neI)) (fun z => by simp at z) (fun _ => sv_next ?_)))
    exact sv_if (et_test (ev_op (ev_fldS bf.cl bf.naS (ev_var rfl)) (ev_fldS bf.cl bf.naS (ev_var rfl)) rv_neI)) (fun z => by simp at z) (fun _ => sv_next ⟨_, rfl⟩)
end
end NA

set_option Elab.async false
set_option linter.all false
set_option maxRecDepth 100000
set_option maxHeartbeats 4000000
set_option autoImplicit false
namespace NA
open PySem PySem.Spec PyProof.Rows L2
abbrev sRoomWeights : Stmt := topS 27
abbrev nRoomWeights : List Str := ["books", "weights", "weight", "book", "room"]
theorem scRoomWeights : FnScope nRoomWeights ["books"] (defScope sRoomWeights) := ⟨rfl, rfl, rfl, by decide +kernel, rfl, by decide +kernel, by decide +kernel⟩
abbrev sVector : Stmt := topS 28
abbrev nVector : List Str := ["book", "weights", "room"]
theorem scVector : FnScope nVector ["book", "weights"] (defScope sVector) := ⟨rfl, rfl, rfl, by decide +kernel, rfl, by decide +kernel, by decide +kernel⟩
abbrev sWithoutPivots : Stmt := topS 29
abbrev nWithoutPivots : List Str := ["basis", "mask", "rest", "added", "pivot", "entry", "members"]
theorem scWithoutPivots : FnScope nWithoutPivots ["basis", "mask"] (defScope sWithoutPivots) := ⟨rfl, rfl, rfl, by decide +kernel, rfl, by decide +kernel, by decide +kernel⟩
abbrev sFullBasis : Stmt := topS 30
abbrev nFullBasis : List Str := ["masks", "basis", "member", "mask", "rest", "added", "pivot", "whole", "at", "other", "entry", "members"]
theorem scFullBasis : FnScope nFullBasis ["masks"] (defScope sFullBasis) := ⟨rfl, rfl, rfl, by decide +kernel, rfl, by decide +kernel, by decide +kernel⟩
abbrev sBits : Stmt := topS 31
abbrev nBits : List Str := ["mask", "found", "left", "at"]
theorem scBits : FnScope nBits ["mask"] (defScope sBits) := ⟨rfl, rfl, rfl, by decide +kernel, rfl, by decide +kernel, by decide +kernel⟩
section
variable {K : PySem.W.Frag} {C : Addr} {S S' H H' S0 H0 : Hp} {σ : L2.St} {Γ Γ' : List Sl} {E : AE} {te : TE} {d : D} {ds : List D}
theorem sv_asgT {g : TG} {is : List Nat} (h : EvE K C te Γ d) (hg : TgE K C g is d Γ Γ') (gs : GSet is Γ Γ') (k : E.nx Γ') : SvE K C S0 H0 (tAsg te g) Γ E := fun Dd σ S H e kk =>
  h σ S H e.e _ fun v S1 H1 g1 i1 => hg σ S1 H1 v (e.grow g1).e i1 _ fun σ' e' _ o => kk.nx _ _ S1 H1 ((e.grow g1).tg gs e' o) g1.hs k
theorem ev_listM {i : Nat} (hi : Γ[i]? = some (.ml ds)) : EvE K C (tCB (rLstOf K) (tCons (tVar i) tNil)) Γ (.lst ds) := fun σ S H E Q q => by
  obtain ⟨o, e1, p, vs, rfl, hS, hH, l, n⟩ := E.ok i _ hi
  exact ⟨.ref p, e1, p, vs, rfl, .inl (.of hH), fun x hx => q _ _ _ (Grow.new E.le hx) (.lst upd_same (l.mono (same_upd (same_free E.le hx))) n)⟩
theorem gset3 {d1 d2 d3 : D} (i j k : Nat) : GSet [i, j, k] Γ (((Γ.set i (.val d1)).set j (.val d2)).set k (.val d3)) := by
  have h2 := gset2 (Γ := Γ) (d1 := d1) (d2 := d2) i j
  refine ⟨fun m h => ?_, fun m s h e => ?_⟩
  · rw [List.getElem?_set, if_neg (fun z => h (by simp [z])), h2.out m (fun z => h (by simp at z ⊢; rcases z with z | z <;> simp [z]))]
  · rw [List.getElem?_set] at e
    split at e
    · split at e
      · cases e; rfl
      · cases e
    · rename_i hk
      refine h2.inn m s ?_ e
      simp at h ⊢
      rcases h with h | h | h
      · exact .inl h
      · exact .inr h
      · exact absurd h.symm hk
theorem gset4 {d1 d2 d3 d4 : D} (i j k l : Nat) : GSet [i, j, k, l] Γ ((((Γ.set i (.val d1)).set j (.val d2)).set k (.val d3)).set l (.val d4)) := by
  have h2 := gset3 (Γ := Γ) (d1 := d1) (d2 := d2) (d3 := d3) i j k
  refine ⟨fun m h => ?_, fun m s h e => ?_⟩
  · rw [List.getElem?_set, if_neg (fun z => h (by simp [z])), h2.out m (fun z => h (by simp at z ⊢; rcases z with z | z | z <;> simp [z]))]
  · rw [List.getElem?_set] at e
    split at e
    · split at e
      · cases e; rfl
      · cases e
    · rename_i hk
      refine h2.inn m s ?_ e
      simp at h ⊢
      rcases h with h | h | h | h
      · exact .inl h
      · exact .inr (.inl h)
      · exact .inr (.inr h)
      · exact absurd h.symm hk
end
/-! ### bits -/
def low (n : Nat) : Nat := n - (n &&& (n - 1))
theorem and_neg (n : Nat) : Builtin.bitAnd (n : Int) (-(n : Int)) = (low n : Int) := by
  unfold Builtin.bitAnd low
  cases n with
  | zero => rfl
  | succ m =>
    have h1 : decide ((0 : Int) ≤ ((m + 1 : Nat) : Int)) = true := decide_eq_true (by omega)
    have h2 : decide ((0 : Int) ≤ -((m + 1 : Nat) : Int)) = false := decide_eq_false (by omega)
    rw [h1, h2]
    have h3 : (Builtin.bitNot (-((m + 1 : Nat) : Int))).toNat = m := by unfold Builtin.bitNot; omega
    show ((m + 1 : Nat) : Int) - _ = _
    rw [h3, Int.toNat_natCast]
    have h4 : (m + 1) &&& m ≤ m + 1 := Nat.and_le_left
    have h5 : m + 1 - 1 = m := rfl
    rw [h5]; omega
theorem and_nn (a b : Nat) : Builtin.bitAnd (a : Int) (b : Int) = ((a &&& b : Nat) : Int) := by
  unfold Builtin.bitAnd
  rw [decide_eq_true (by omega), decide_eq_true (by omega)]
  show ((_ : Nat) : Int) = _
  rw [Int.toNat_natCast, Int.toNat_natCast]
theorem xor_nn (a b : Nat) : Builtin.bitXor (a : Int) (b : Int) = ((a ^^^ b : Nat) : Int) := by
  rw [Bits.bitXor_pp (by omega) (by omega), Int.toNat_natCast, Int.toNat_natCast]
/-! ### the mirrors -/
def firsts (l : List (List Int)) : List (List Int) := l.foldl (fun acc r => if r ∈ acc then acc else acc ++ [r]) []
theorem firsts_snoc (l : List (List Int)) (r : List Int) : firsts (l ++ [r]) = if r ∈ firsts l then firsts l else firsts l ++ [r] := by
  unfold firsts; rw [List.foldl_append]; rfl
theorem firsts_len (l : List (List Int)) : (firsts l).length ≤ l.length := by
  refine snoc_ind (M := fun l => (firsts l).length ≤ l.length) (Nat.le_refl _) (fun l x ih => ?_) l
  rw [firsts_snoc]
  split <;> simp <;> omega
theorem firsts_mem (l : List (List Int)) : ∀ r, r ∈ firsts l ↔ r ∈ l := by
  refine snoc_ind (M := fun l => ∀ r, r ∈ firsts l ↔ r ∈ l) (fun r => Iff.rfl) (fun l x ih r => ?_) l
  rw [firsts_snoc]
  split
  · rename_i hx
    rw [ih, List.mem_append]
    refine ⟨.inl, fun z => ?_⟩
    rcases z with z | z
    · exact z
    · have : r = x := by simpa using z
      subst this; exact (ih _).mp hx
  · rw [List.mem_append, List.mem_append, ih]
theorem firsts_nd (l : List (List Int)) : (firsts l).Nodup := by
  refine snoc_ind (M := fun l => (firsts l).Nodup) .nil (fun l x ih => ?_) l
  rw [firsts_snoc]
  split
  · exact ih
  · rename_i hx
    exact List.nodup_append.mpr ⟨ih, by simp, fun a ha b hb => by
      have : b = x := by simpa using hb
      subst this
      exact fun z => hx (z ▸ ha)⟩
def wts (F : List (List Int)) : List (List Int × Int) := F.zipIdx.map fun p => (p.1, ((2 ^ p.2 : Nat) : Int))
theorem wts_snoc (F : List (List Int)) (r : List Int) : wts (F ++ [r]) = wts F ++ [(r, ((2 ^ F.length : Nat) : Int))] := by
  unfold wts; rw [List.zipIdx_append, List.map_append]; simp
theorem wts_keys (F : List (List Int)) : (wts F).map (·.1) = F := by
  unfold wts; rw [List.map_map]
  exact List.zipIdx_map_fst 0 F
theorem wts_len (F : List (List Int)) : (wts F).length = F.length := by unfold wts; simp
theorem getI_none {kz : List (List Int × Int)} {r : List Int} (h : r ∉ kz.map (·.1)) : getI kz r = none := by
  cases e : getI kz r with
  | none => rfl
  | some z => exact absurd (getI_mem.mpr (by rw [e]; rfl)) h
theorem putI_new {kz : List (List Int × Int)} {r : List Int} {z : Int} (h : r ∉ kz.map (·.1)) : putI kz r z = kz ++ [(r, z)] := by
  unfold putI
  rw [if_neg]
  rw [Bool.not_eq_true, List.any_eq_false]
  intro kv hkv
  have : kv.1 ≠ r := fun z => h (z ▸ List.mem_map.mpr ⟨kv, hkv, rfl⟩)
  simpa using this
def tri (b : Nat × Nat × Nat) : D := room [(b.1 : Int), (b.2.1 : Int), (b.2.2 : Int)]
def stepW (x : Nat × Nat) (b : Nat × Nat × Nat) : Nat × Nat := if x.1 &&& b.1 = 0 then x else (x.1 ^^^ b.2.1, x.2 ^^^ b.2.2)
def wpF (bs : List (Nat × Nat × Nat)) (m : Nat) : Nat × Nat := bs.foldl stepW (m, 0)
def redB (rest whole : Nat) (b : Nat × Nat × Nat) : Nat × Nat × Nat := if b.2.1 &&& low rest = 0 then b else (b.1, b.2.1 ^^^ rest, b.2.2 ^^^ whole)
def fbStep (x : List (Nat × Nat × Nat) × Nat) (m : Nat) : List (Nat × Nat × Nat) × Nat :=
  (if (wpF x.1 m).1 = 0 then x.1 else x.1.map (redB (wpF x.1 m).1 ((wpF x.1 m).2 ^^^ x.2)) ++ [(low (wpF x.1 m).1, (wpF x.1 m).1, (wpF x.1 m).2 ^^^ x.2)], x.2 * 2)
def fbG (ms : List Nat) : List (Nat × Nat × Nat) × Nat := ms.foldl fbStep ([], 1)
def fbF (ms : List Nat) : List (Nat × Nat × Nat) := (fbG ms).1
theorem fbG_snoc (ms : List Nat) (m : Nat) : fbG (ms ++ [m]) = fbStep (fbG ms) m := by unfold fbG; rw [List.foldl_append]; rfl
theorem fbG_len (ms : List Nat) : (fbG ms).1.length ≤ ms.length := by
  refine snoc_ind (M := fun ms => (fbG ms).1.length ≤ ms.length) (Nat.le_refl _) (fun l x ih => ?_) ms
  rw [fbG_snoc]; unfold fbStep
  show (if _ then _ else _ : List _).length ≤ _
  split <;> simp <;> omega
def bitsA (a m : Nat) : List Nat := if h : m = 0 then [] else (if m % 2 = 1 then [a] else []) ++ bitsA (a + 1) (m / 2)
termination_by m
decreasing_by omega
theorem bitsA_zero (a : Nat) : bitsA a 0 = [] := by rw [bitsA]; simp
theorem bitsA_pos (a m : Nat) (h : m ≠ 0) : bitsA a m = (if m % 2 = 1 then [a] else []) ++ bitsA (a + 1) (m / 2) := by rw [bitsA]; simp [h]
theorem bitsA_len : ∀ (k a m : Nat), m < 2 ^ k → (bitsA a m).length ≤ k
  | 0, a, m, h => by
    have : m = 0 := by simpa using h
    subst this; rw [bitsA_zero]; exact Nat.le_refl _
  | k + 1, a, m, h => by
    by_cases h0 : m = 0
    · subst h0; rw [bitsA_zero]; simp
    · rw [bitsA_pos a m h0, List.length_append]
      have := bitsA_len k (a + 1) (m / 2) (by rw [Nat.pow_succ] at h; omega)
      split <;> simp <;> omega
def natD (m : Nat) : D := .int (m : Int)
def vecI (kz : List (List Int × Int)) (rs : List (List Int)) : Int := (rs.map fun r => (getI kz r).getD 0).sum
def rRW : List D → List (List Int × Int) → Prop := fun ds kz => ∃ (n s : Nat) (rss : List (List (List Int))), ds = [.lst (rss.map fun rs => bk n s rs)] ∧ rss.flatten.length < 1000 ∧ kz = wts (firsts rss.flatten)
def rVec : List D → D → Prop := fun ds d => ∃ (n s : Nat) (rs : List (List Int)) (kz : List (List Int × Int)), ds = [bk n s rs, .dct kz] ∧ (∀ r ∈ rs, r ∈ kz.map (·.1)) ∧ d = .int (vecI kz rs)
def rWP : List D → D → Prop := fun ds d => ∃ (bs : List (Nat × Nat × Nat)) (m : Nat), ds = [.lst (bs.map tri), natD m] ∧ d = room [((wpF bs m).1 : Int), ((wpF bs m).2 : Int)]
def rFB : List D → D → Prop := fun ds d => ∃ (ms : List Nat), ds = [.lst (ms.map natD)] ∧ ms.length < 1000 ∧ d = .lst ((fbF ms).map tri)
def rBits : List D → D → Prop := fun ds d => ∃ (m : Nat), ds = [natD m] ∧ m < 2 ^ 64 ∧ d = .lst ((bitsA 0 m).map natD)
def onV (g : List Int → D) (d : D) : D := match d with
  | .tup ds => g (ds.map fun x => match x with | .int i => i | _ => 0)
  | _ => .non
theorem onV_room (g : List Int → D) (r : List Int) : onV g (room r) = g r := by
  unfold onV
  show g ((r.map D.int).map _) = g r
  rw [List.map_map]
  congr 1
  exact List.map_id _
theorem lcRes_mapR (g : List Int → D) (rs : List (List Int)) : lcRes (fun _ => true) (onV g) (rs.map room) = rs.map g := by
  unfold lcRes
  rw [List.filter_eq_self.mpr (fun _ _ => rfl), List.map_map]
  exact List.map_congr_left fun r _ => onV_room g r
theorem at_map {α : Type} {f : α → D} {l : List α} {i : Nat} {d : D} (h : (l.map f)[i]? = some d) : ∃ a, l[i]? = some a ∧ d = f a := by
  rw [List.getElem?_map] at h
  cases e : l[i]? with
  | none => rw [e] at h; cases h
  | some a => rw [e] at h; cases h; exact ⟨a, rfl, rfl⟩
section
variable {P : Program} {w : World} {K : PySem.W.Frag} {mg : Str → Option Value} {base : Heap} {C : Addr}
theorem ok_room_weights {k : Nat} {f : Addr} {fd : FuncData} (F : Fun K "room_weights" "room_weights" sRoomWeights f fd) (bf : Bk K C) : FnOk P w K mg base CX0 (k + 1) f fd ["books"] (spM K C rRW) := by
  refine F.ok scRoomWeights (fun vs H Q E h => ?_) (fun cdv A outer st H vs Q E hr h => ?_)
  · obtain ⟨S, ds, kz, _, l, ⟨n, s, rss, rfl, _⟩, _⟩ := h
    exact l.length
  · obtain ⟨S, ds, kz, e, l, ⟨n, s, rss, rfl, hl, rfl⟩, q⟩ := h
    refine ⟨_, (pss_cons (ps_set (i := 1) scRoomWeights.nd rfl (.inl rfl) pe_dnewT)
      (pss_cons (ps_set (i := 2) scRoomWeights.nd rfl (.inl rfl) pe_int)
      (pss_cons (ps_for PassesOwn.never (by rfl) (pi_list (pv 0)) (pg_name (i := 3) scRoomWeights.nd rfl (.inl rfl))
       (pss_one (ps_for PassesOwn.never (by rfl) (pi_tup (kFld K (pv 3))) (pg_name (i := 4) scRoomWeights.nd rfl (.inl rfl))
        (pss_one (ps_if (pt_cmp (pc_dnotin (hu_of hr) (pv 4) (pv 1))) (pss_cons (ps_dput (hu_of hr) (pv 1) (pv 4) (pv 2) rfl)
         (pss_one (ps_aug (i := 2) scRoomWeights.nd rfl (.inl rfl) pe_int ip_mul))) pss_nil)))))
      (pss_one (ps_ret (pv 1)))))), ?_⟩
    refine sv_tail3 (K := K) (C := C) (S := S) (S0 := S) (H0 := H) (Γ := Γ0 nRoomWeights [.lst (rss.map fun rs => bk n s rs)]) (E := { nx := fun Γ => ∃ s2 s3 s4, Γ = [.val (.lst (rss.map fun rs => bk n s rs)), .md (kD (wts (firsts rss.flatten))), s2, s3, s4] }) ?_ (Env0 e l) ⟨fun Γ σ S1 H1 ev _ hΓ => ?_, fun _ _ _ _ _ _ z => z.elim, fun _ _ _ _ _ _ z => z.elim, fun _ _ _ _ _ _ z => z.elim⟩
    · refine sv_seq (sv_dnew ?_)
      refine sv_seq (sv_asg ev_int ?_)
      refine sv_forL (ds := rss.map fun rs => bk n s rs) (fun i Γ => ∃ s3 s4, Γ = [.val (.lst (rss.map fun rs => bk n s rs)), .md (kD (wts (firsts (rss.take i).flatten))), .val (.int ((2 ^ (firsts (rss.take i).flatten).length : Nat) : Int)), s3, s4]) (ev_var rfl) ⟨_, _, rfl⟩ (fun i d Γ1 hd hI => ?_) (fun Γ1 hI => ?_)
      · obtain ⟨s3, s4, rfl⟩ := hI
        obtain ⟨rs, hrs, rfl⟩ := at_map hd
        have ef : (rss.take (i + 1)).flatten = (rss.take i).flatten ++ rs := by rw [take_snoc hrs]; simp
        have hle : ((rss.take i).flatten ++ rs).length < 1000 := by
          rw [← ef]
          have h := congrArg (fun l => l.flatten.length) (List.take_append_drop (i + 1) rss)
          simp only [List.flatten_append, List.length_append] at h
          omega
        refine step_name ?_
        refine sv_forT (ds := rs.map room) (fun j Γ => ∃ s4, Γ = [.val (.lst (rss.map fun rs => bk n s rs)), .md (kD (wts (firsts ((rss.take i).flatten ++ rs.take j)))), .val (.int ((2 ^ (firsts ((rss.take i).flatten ++ rs.take j)).length : Nat) : Int)), .val (bk n s rs), s4]) (ev_fldR bf.cl bf.naR (ev_var rfl)) ⟨s4, by rw [List.take_zero, List.append_nil]; rfl⟩ (fun j d Γ1 hd hI => ?_) (fun Γ1 hI => ?_)
        · obtain ⟨s4, rfl⟩ := hI
          obtain ⟨r, hr', rfl⟩ := at_map hd
          have e2 : firsts ((rss.take i).flatten ++ rs.take (j + 1)) = if r ∈ firsts ((rss.take i).flatten ++ rs.take j) then firsts ((rss.take i).flatten ++ rs.take j) else firsts ((rss.take i).flatten ++ rs.take j) ++ [r] := by
            rw [take_snoc hr', ← List.append_assoc, firsts_snoc]
          have hlt : (firsts ((rss.take i).flatten ++ rs.take j)).length < 1000 := by
            have h1 := firsts_len ((rss.take i).flatten ++ rs.take j)
            rw [List.length_append, List.length_take] at h1
            rw [List.length_append] at hle
            omega
          generalize firsts ((rss.take i).flatten ++ rs.take j) = F at e2 hlt ⊢
          refine step_name (sv_if (et_B (et_dnin rfl .md (ev_var rfl))) (fun z => ?_) (fun z => sv_next ⟨.val (room r), ?_⟩))
          · have hF : r ∉ F := fun hm => by
              obtain ⟨z', hz'⟩ := get_mem (kz := wts F) (r := r) (by rw [wts_keys]; exact hm)
              rw [kvGet_kD, hz'] at z; cases z
            refine sv_seq (sv_put rfl (ev_var rfl) (ev_var rfl) (by rw [wts_len]; exact hlt) ?_)
            refine sv_augR rfl ev_int (.inr (by decide)) ⟨.val (room r), ?_⟩
            rw [e2, if_neg hF, putI_new (by rw [wts_keys]; exact hF), ← wts_snoc, List.length_append]
            show [_, _, _, _, _] = [_, _, _, _, _]
            rw [show F.length + [r].length = F.length + 1 from rfl, Nat.pow_succ]
            simp
          · have hF : r ∈ F := by
              by_cases hm : r ∈ F
              · exact hm
              · rw [kvGet_kD, getI_none (by rw [wts_keys]; exact hm)] at z; cases z
            rw [e2, if_pos hF]; rfl
        · obtain ⟨s4, rfl⟩ := hI
          rw [List.length_map, List.take_length, ← ef]
          exact ⟨_, s4, rfl⟩
      · obtain ⟨s3, s4, rfl⟩ := hI
        rw [List.length_map, List.take_length]
        exact ⟨_, s3, s4, rfl⟩
    · obtain ⟨s2, s3, s4, rfl⟩ := hΓ
      exact retM (R := rRW) (vs := vs) ev rfl fun p S' H' g a1 a2 a3 => q p S' H' g a1 a2 a3
theorem ok_vector {k : Nat} {f : Addr} {fd : FuncData} (F : Fun K "vector" "vector" sVector f fd) (B : Bl mg) (bf : Bk K C) : FnOk P w K mg base CX0 (k + 1) f fd ["book", "weights"] (spR K C rVec) := by
  refine fn_ev F scVector (fun ds d h => by obtain ⟨n, s, rs, kz, rfl, _⟩ := h; rfl) (fun ds d h cdv A outer st H E hr => ?_)
  obtain ⟨n, s, rs, kz, rfl, hk, rfl⟩ := h
  refine ⟨_, (pss_one (ps_ret (pe_callB (cr_sum rfl) (by rfl) B.sum (by decide +kernel) (pa_cons (pe_lc (own := [("room", 2)]) (g := gName 2) (tt := tYes) (by rfl) scVector.nd (pi_tup (kFld K (pv 0))) (blkOk_by (own := [("room", 2)]) (N := nVector) (sc := defScope sVector) (by decide +kernel)) (fun _ _ _ _ _ => (pg_name (i := 2) scVector.nd rfl (.inl rfl))) (fun _ _ _ _ _ => pts_nil) (fun _ _ _ _ _ => (pe_dget (hu_of hr) (pv 1) (pv 2) (fun _ _ => rfl)))) pa_nil)))), fun S0 H0 => ?_⟩
  refine sv_ret (ev_cb (ea_cons (ev_is (ev_lcT (fun _ => true) (onV fun r => .int ((getI kz r).getD 0)) (ev_fldR bf.cl bf.naR (ev_var rfl)) (fun d hd => ?_)) (d := .lst ((rs.map fun r => (getI kz r).getD 0).map D.int)) ?_) ea_nil) rc_sum) rfl
  · obtain ⟨r, hr', rfl⟩ := List.mem_map.mp hd
    refine cstep_name (by simp) et_yes (fun _ => ?_)
    obtain ⟨z, hz⟩ := get_mem (hk r hr')
    refine ev_is (ev_getz rfl (.dct (kvs := kz)) (ev_var rfl) hz) ?_
    rw [onV_room, hz]; rfl
  · rw [lcRes_mapR, List.map_map]; rfl
theorem ok_without_pivots {k : Nat} {f : Addr} {fd : FuncData} (F : Fun K "without_pivots" "without_pivots" sWithoutPivots f fd) : FnOk P w K mg base CX0 (k + 1) f fd ["basis", "mask"] (spR K C rWP) := by
  refine fn_ev F scWithoutPivots (fun ds d h => by obtain ⟨bs, m, rfl, _⟩ := h; rfl) (fun ds d h cdv A outer st H E hr => ?_)
  obtain ⟨bs, m, rfl, rfl⟩ := h
  refine ⟨_, (pss_cons (ps_set (i := 2) scWithoutPivots.nd rfl (.inl rfl) (pv 1))
      (pss_cons (ps_set (i := 3) scWithoutPivots.nd rfl (.inl rfl) pe_int)
      (pss_cons (ps_for PassesOwn.never (by rfl) (pi_list (pv 0)) (pg_tup (by rfl) (pgs_cons (pg_name (i := 4) scWithoutPivots.nd rfl (.inl rfl)) (pgs_cons (pg_name (i := 5) scWithoutPivots.nd rfl (.inl rfl)) (pgs_cons (pg_name (i := 6) scWithoutPivots.nd rfl (.inl rfl)) pgs_nil))))
       (pss_one (ps_if (pt_cmpR op_ne (pe_op op_and (pv 2) (pv 4)) pe_int (nomark _)) (pss_cons (ps_set (i := 2) scWithoutPivots.nd rfl (.inl rfl) (pe_op op_xor (pv 2) (pv 5)))
        (pss_one (ps_set (i := 3) scWithoutPivots.nd rfl (.inl rfl) (pe_op op_xor (pv 3) (pv 6))))) pss_nil)))
      (pss_one (ps_ret (pe_tup (pa_cons (pv 2) (pa_cons (pv 3) pa_nil)))))))), fun S0 H0 => ?_⟩
  refine sv_seq (sv_asg (ev_var rfl) ?_)
  refine sv_seq (sv_asg ev_int ?_)
  refine sv_seq (sv_forL (ds := bs.map tri) (fun i Γ => ∃ s4 s5 s6, Γ = [.val (.lst (bs.map tri)), .val (natD m), .val (natD (wpF (bs.take i) m).1), .val (natD (wpF (bs.take i) m).2), s4, s5, s6]) (ev_var rfl) ⟨_, _, _, rfl⟩ (fun i d Γ1 hd hI => ?_) (fun Γ1 hI => ?_))
  · obtain ⟨s4, s5, s6, rfl⟩ := hI
    obtain ⟨b, hb, rfl⟩ := at_map hd
    have e2 : wpF (bs.take (i + 1)) m = stepW (wpF (bs.take i) m) b := by unfold wpF; rw [take_snoc hb, List.foldl_append]; rfl
    generalize wpF (bs.take i) m = x at e2 ⊢
    refine ⟨[4, 5, 6], _, gset3 4 5 6, tg_tup (tgl_cons tg_name (tgl_cons tg_name (tgl_cons tg_name tgl_nil))) rfl, ?_⟩
    refine sv_if (et_test (ev_op (ev_op (ev_var rfl) (ev_var rfl) rv_I0) ev_int rv_neI)) (fun z => ?_) (fun z => sv_next ⟨.val (natD b.1), .val (natD b.2.1), .val (natD b.2.2), ?_⟩)
    · rw [and_nn] at z
      have hz : ¬ x.1 &&& b.1 = 0 := fun w => by rw [w] at z; simp at z
      refine sv_seq (sv_asg (ev_op (ev_var rfl) (ev_var rfl) rv_I0) ?_)
      refine sv_asg (ev_op (ev_var rfl) (ev_var rfl) rv_I0) ⟨.val (natD b.1), .val (natD b.2.1), .val (natD b.2.2), ?_⟩
      rw [e2]; unfold stepW; rw [if_neg hz, xor_nn, xor_nn]; rfl
    · rw [and_nn] at z
      have hz : x.1 &&& b.1 = 0 := by
        simp only [Bool.not_eq_false', decide_eq_true_eq] at z; omega
      rw [e2]; unfold stepW; rw [if_pos hz]; rfl
  · obtain ⟨s4, s5, s6, rfl⟩ := hI
    rw [List.length_map, List.take_length]
    exact sv_ret (ev_tup (ea_cons (ev_var rfl) (ea_cons (ev_var rfl) ea_nil)) (by simp)) rfl
theorem ok_full_basis {k : Nat} {f : Addr} {fd : FuncData} (F : Fun K "full_basis" "full_basis" sFullBasis f fd) (B : Bl mg) (D_without_pivots : Def P w K mg base CX0 k "without_pivots" ["basis", "mask"] (spR K C rWP)) : FnOk P w K mg base CX0 (k + 1) f fd ["masks"] (spR K C rFB) := by
  refine fn_ev F scFullBasis (fun ds d h => by obtain ⟨ms, rfl, _⟩ := h; rfl) (fun ds d h cdv A outer st H E hr => ?_)
  obtain ⟨ms, rfl, hl, rfl⟩ := h
  refine ⟨_, (pss_cons (ps_set (i := 1) scFullBasis.nd rfl (.inl rfl) (pe_lst pa_nil))
      (pss_cons (ps_set (i := 2) scFullBasis.nd rfl (.inl rfl) pe_int)
      (pss_cons (ps_for PassesOwn.never (by rfl) (pi_list (pv 0)) (pg_name (i := 3) scFullBasis.nd rfl (.inl rfl))
       (pss_cons (ps_asg (pe_cd D_without_pivots (hr.mono (by omega)) (by rfl) pass0 (pa_cons (pv 1) (pa_cons (pv 3) pa_nil))) (pg_tup (by rfl) (pgs_cons (pg_name (i := 4) scFullBasis.nd rfl (.inl rfl)) (pgs_cons (pg_name (i := 5) scFullBasis.nd rfl (.inl rfl)) pgs_nil))))
       (pss_cons (ps_if (pt_cmpR op_ne (pv 4) pe_int (nomark _)) (pss_cons (ps_set (i := 6) scFullBasis.nd rfl (.inl rfl) (pe_op op_and (pv 4) (pe_un un_neg (pv 4))))
        (pss_cons (ps_set (i := 7) scFullBasis.nd rfl (.inl rfl) (pe_op op_xor (pv 5) (pv 2)))
        (pss_cons (ps_for PassesOwn.never (by rfl) (pi_enum (by rfl) B.enumerate (pa_cons (pe_callTy (kLst K) (by rfl) B.list (by decide +kernel) (pa_cons (pv 1) pa_nil)) pa_nil)) (pg_tup (by rfl) (pgs_cons (pg_name (i := 8) scFullBasis.nd rfl (.inl rfl)) (pgs_cons (pg_tup (by rfl) (pgs_cons (pg_name (i := 9) scFullBasis.nd rfl (.inl rfl)) (pgs_cons (pg_name (i := 10) scFullBasis.nd rfl (.inl rfl)) (pgs_cons (pg_name (i := 11) scFullBasis.nd rfl (.inl rfl)) pgs_nil)))) pgs_nil)))
         (pss_one (ps_if (pt_cmpR op_ne (pe_op op_and (pv 10) (pv 6)) pe_int (nomark _)) (pss_one (ps_asg (pe_tup (pa_cons (pv 9) (pa_cons (pe_op op_xor (pv 10) (pv 4)) (pa_cons (pe_op op_xor (pv 11) (pv 7)) pa_nil)))) (pg_sub (pv 1) (pv 8) set_list))) pss_nil)))
        (pss_one (ps_expr (pe_bm PySem.F.plainAttrs_list PySem.F.slot_list_append PySem.F.type_list_append mt_append (pv 1) (pa_cons (pe_tup (pa_cons (pv 6) (pa_cons (pv 4) (pa_cons (pv 7) pa_nil)))) pa_nil))))))) pss_nil)
       (pss_one (ps_aug (i := 2) scFullBasis.nd rfl (.inl rfl) pe_int ip_mul)))))
      (pss_one (ps_ret (pv 1)))))), fun S0 H0 => ?_⟩
  refine sv_seq (sv_lnew ea_nil (by simp) ?_)
  refine sv_seq (sv_asg ev_int ?_)
  refine sv_seq (sv_forL (ds := ms.map natD) (fun i Γ => ∃ s3 s4 s5 s6 s7 s8 s9 s10 s11, Γ = [.val (.lst (ms.map natD)), .ml ((fbG (ms.take i)).1.map tri), .val (natD (fbG (ms.take i)).2), s3, s4, s5, s6, s7, s8, s9, s10, s11]) (ev_var rfl) ⟨_, _, _, _, _, _, _, _, _, rfl⟩ (fun i d Γ1 hd hI => ?_) (fun Γ1 hI => ?_))
  · obtain ⟨s3, s4, s5, s6, s7, s8, s9, s10, s11, rfl⟩ := hI
    obtain ⟨m, hm, rfl⟩ := at_map hd
    have e2 : fbG (ms.take (i + 1)) = fbStep (fbG (ms.take i)) m := by rw [take_snoc hm, fbG_snoc]
    have hlen : (fbG (ms.take i)).1.length < 1000 := by
      have h1 := fbG_len (ms.take i)
      rw [List.length_take] at h1
      have := (List.getElem?_eq_some_iff.mp hm).1
      omega
    generalize fbG (ms.take i) = x at e2 hlen ⊢
    obtain ⟨bs, mem⟩ := x
    refine step_name (sv_seq (sv_asgT (d := room [((wpF bs m).1 : Int), ((wpF bs m).2 : Int)]) (ev_freezeL (i := 1) rfl (ev_call0 (ea_cons (ev_var rfl) (ea_cons (ev_var rfl) ea_nil)) ⟨bs, m, rfl, rfl⟩) (.inr ⟨_, rfl⟩)) (tg_tup (tgl_cons tg_name (tgl_cons tg_name tgl_nil)) rfl) (gset2 4 5) ?_))
    show SvE K C S0 H0 _ [.val (.lst (ms.map natD)), .ml (bs.map tri), .val (natD mem), .val (natD m), .val (natD (wpF bs m).1), .val (natD (wpF bs m).2), s6, s7, s8, s9, s10, s11] _
    have e3 : fbG (ms.take (i + 1)) = (if (wpF bs m).1 = 0 then bs else bs.map (redB (wpF bs m).1 ((wpF bs m).2 ^^^ mem)) ++ [(low (wpF bs m).1, (wpF bs m).1, (wpF bs m).2 ^^^ mem)], mem * 2) := e2
    generalize wpF bs m = x at e3 ⊢
    obtain ⟨rest, added⟩ := x
    refine sv_seq (sv_if (et_test (ev_op (ev_var rfl) ev_int rv_neI)) (fun z => ?_) (fun z => sv_next ?_))
    · have hz : rest ≠ 0 := fun w => by subst w; simp at z
      rw [if_neg hz] at e3
      refine sv_seq (sv_asg (ev_op (ev_var rfl) (ev_un (ev_var rfl) ru_neg) rv_I0) ?_)
      refine sv_seq (sv_asg (ev_op (ev_var rfl) (ev_var rfl) rv_I0) ?_)
      rw [and_neg, xor_nn]
      show SvE K C S0 H0 _ [.val (.lst (ms.map natD)), .ml (bs.map tri), .val (natD mem), .val (natD m), .val (natD rest), .val (natD added), .val (natD (low rest)), .val (natD (added ^^^ mem)), s8, s9, s10, s11] _
      refine sv_seq (sv_forE (ds := bs.map tri) (fun j Γ => ∃ s8 s9 s10 s11, Γ = [.val (.lst (ms.map natD)), .ml (((bs.take j).map (redB rest (added ^^^ mem)) ++ bs.drop j).map tri), .val (natD mem), .val (natD m), .val (natD rest), .val (natD added), .val (natD (low rest)), .val (natD (added ^^^ mem)), s8, s9, s10, s11]) (ea_cons (ev_listM rfl) ea_nil) ⟨s8, s9, s10, s11, by simp⟩ (fun j d Γ1 hd hI => ?_) (fun Γ1 hI => ?_))
      · obtain ⟨s8, s9, s10, s11, rfl⟩ := hI
        obtain ⟨b, hb, rfl⟩ := at_map hd
        have hj := (List.getElem?_eq_some_iff.mp hb).1
        have hbe := (List.getElem?_eq_some_iff.mp hb).2
        refine ⟨[8, 9, 10, 11], _, gset4 8 9 10 11, tg_tup (tgl_cons tg_name (tgl_cons (tg_tup (tgl_cons tg_name (tgl_cons tg_name (tgl_cons tg_name tgl_nil))) rfl) tgl_nil)) rfl, ?_⟩
        have hdrop : bs.drop j = b :: bs.drop (j + 1) := by rw [List.drop_eq_getElem_cons hj, hbe]
        refine sv_if (et_test (ev_op (ev_op (ev_var rfl) (ev_var rfl) rv_I0) ev_int rv_neI)) (fun z => ?_) (fun z => sv_next ⟨.val (.int (j : Int)), .val (natD b.1), .val (natD b.2.1), .val (natD b.2.2), ?_⟩)
        · rw [and_nn] at z
          have hz : ¬ b.2.1 &&& low rest = 0 := fun w => by rw [w] at z; simp at z
          refine sv_setL (i := 1) (j := j) (d := tri (redB rest (added ^^^ mem) b)) rfl (ev_is (ev_tup (ea_cons (ev_var rfl) (ea_cons (ev_op (ev_var rfl) (ev_var rfl) rv_I0) (ea_cons (ev_op (ev_var rfl) (ev_var rfl) rv_I0) ea_nil))) (by simp)) ?_) (ev_var rfl) rfl ?_ ⟨.val (.int (j : Int)), .val (natD b.1), .val (natD b.2.1), .val (natD b.2.2), ?_⟩
          · unfold redB; rw [if_neg hz, xor_nn, xor_nn]; rfl
          · simp; omega
          · rw [take_snoc hb, hdrop]
            have hjl : (((bs.take j).map (redB rest (added ^^^ mem))).map tri).length = j := by simp; omega
            show [_, _, _, _, _, _, _, _, _, _, _, _] = [_, _, _, _, _, _, _, _, _, _, _, _]
            congr 2
            congr 1
            rw [List.map_append, List.map_append, List.map_append, List.map_append, List.set_append_right _ _ (by omega), hjl, Nat.sub_self]
            simp
        · rw [and_nn] at z
          have hz : b.2.1 &&& low rest = 0 := by
            simp only [Bool.not_eq_false', decide_eq_true_eq] at z; omega
          rw [take_snoc hb, hdrop]
          have : redB rest (added ^^^ mem) b = b := by unfold redB; rw [if_pos hz]
          simp [this]
          exact ⟨rfl, rfl, rfl⟩
      · obtain ⟨s8, s9, s10, s11, rfl⟩ := hI
        rw [List.length_map, List.take_length, List.drop_length, List.append_nil]
        refine sv_append (i := 1) (d := tri (low rest, rest, added ^^^ mem)) rfl (ev_tup (ea_cons (ev_var rfl) (ea_cons (ev_var rfl) (ea_cons (ev_var rfl) ea_nil))) (by simp)) (by rw [List.length_map, List.length_map]; exact hlen) ?_
        refine sv_augR rfl ev_int (.inr (by decide)) ⟨.val (natD m), .val (natD rest), .val (natD added), .val (natD (low rest)), .val (natD (added ^^^ mem)), s8, s9, s10, s11, ?_⟩
        rw [e3]
        simp [natD]
    · have hz : rest = 0 := by
        simp only [Bool.not_eq_false', decide_eq_true_eq] at z; omega
      rw [if_pos hz] at e3
      refine sv_augR rfl ev_int (.inr (by decide)) ⟨.val (natD m), .val (natD rest), .val (natD added), s6, s7, s8, s9, s10, s11, ?_⟩
      rw [e3]
      simp [natD]
  · obtain ⟨s3, s4, s5, s6, s7, s8, s9, s10, s11, rfl⟩ := hI
    rw [List.length_map, List.take_length]
    exact sv_freezeL (i := 1) rfl (sv_ret (ev_var rfl) rfl)
theorem ok_bits {k : Nat} {f : Addr} {fd : FuncData} (F : Fun K "bits" "bits" sBits f fd) : FnOk P w K mg base CX0 (k + 1) f fd ["mask"] (spR K C rBits) := by
  refine fn_ev F scBits (fun ds d h => by obtain ⟨m, rfl, _⟩ := h; rfl) (fun ds d h cdv A outer st H E hr => ?_)
  obtain ⟨m, rfl, hm, rfl⟩ := h
  refine ⟨_, (pss_cons (ps_set (i := 1) scBits.nd rfl (.inl rfl) (pe_lst pa_nil))
      (pss_cons (ps_set (i := 2) scBits.nd rfl (.inl rfl) (pv 0))
      (pss_cons (ps_set (i := 3) scBits.nd rfl (.inl rfl) pe_int)
      (pss_cons (ps_while PassesOwn.never (pt_cmpR op_gt (pv 2) pe_int (nomark _)) (pss_cons (ps_if (pt_cmpR op_eq (pe_op op_modN (pv 2) pe_int) pe_int (nomark _)) (pss_one (ps_expr (pe_bm PySem.F.plainAttrs_list PySem.F.slot_list_append PySem.F.type_list_append mt_append (pv 1) (pa_cons (pv 3) pa_nil)))) pss_nil)
       (pss_cons (ps_set (i := 2) scBits.nd rfl (.inl rfl) (pe_op op_fdivN (pv 2) pe_int))
       (pss_one (ps_aug (i := 3) scBits.nd rfl (.inl rfl) pe_int ip_add)))))
      (pss_one (ps_ret (pv 1))))))), fun S0 H0 => ?_⟩
  refine sv_seq (sv_lnew ea_nil (by simp) ?_)
  refine sv_seq (sv_asg (ev_var rfl) ?_)
  refine sv_seq (sv_asg ev_int ?_)
  have hlen := bitsA_len 64 0 m hm
  refine sv_seq (sv_while (fun x Γ => ∃ (fo : List Nat) (a : Nat), fo ++ bitsA a x = bitsA 0 m ∧ Γ = [.val (natD m), .ml (fo.map natD), .val (natD x), .val (natD a)]) m ⟨[], 0, rfl, rfl⟩ (fun x Γ1 hI => ?_))
  obtain ⟨fo, a, hfo, rfl⟩ := hI
  refine ⟨decide ((x : Int) > 0), et_test (ev_op (ev_var rfl) ev_int rv_B0), fun hb => ?_, fun hb => ?_⟩
  · have hx : x ≠ 0 := by have := of_decide_eq_true hb; omega
    rw [bitsA_pos a x hx] at hfo
    have e2 : (x : Int).fmod 2 = ((x % 2 : Nat) : Int) := by rw [Int.fmod_eq_emod_of_nonneg _ (by decide)]; rfl
    have e3 : (x : Int).fdiv 2 = ((x / 2 : Nat) : Int) := by rw [Int.fdiv_eq_ediv_of_nonneg _ (by decide)]; rfl
    refine sv_seq (sv_if (et_test (ev_op (ev_op (ev_var rfl) ev_int (rv_I (by decide))) ev_int rv_eqI)) (fun z => ?_) (fun z => sv_next ?_))
    · rw [e2] at z
      have hz : x % 2 = 1 := by have := of_decide_eq_true z; omega
      rw [if_pos hz, ← List.append_assoc] at hfo
      have hfl : fo.length < 64 := by
        have := congrArg List.length hfo
        simp at this; omega
      refine sv_append (i := 1) rfl (ev_var rfl) (by rw [List.length_map]; omega) ?_
      refine sv_seq (sv_asg (ev_op (ev_var rfl) ev_int (rv_I ⟨by decide, by decide⟩)) ?_)
      refine sv_augI rfl ev_int ⟨x / 2, by omega, fo ++ [a], a + 1, hfo, ?_⟩
      rw [e3]; simp [natD]
    · rw [e2] at z
      have hz : ¬ x % 2 = 1 := fun w => by rw [w] at z; simp at z
      rw [if_neg hz, List.nil_append] at hfo
      refine sv_seq (sv_asg (ev_op (ev_var rfl) ev_int (rv_I ⟨by decide, by decide⟩)) ?_)
      refine sv_augI rfl ev_int ⟨x / 2, by omega, fo, a + 1, hfo, ?_⟩
      rw [e3]; simp [natD]
  · have hx : x = 0 := by have := of_decide_eq_false hb; omega
    subst hx
    rw [bitsA_zero, List.append_nil] at hfo
    subst hfo
    exact sv_freezeL (i := 1) rfl (sv_ret (ev_var rfl) rfl)
end
end NA

set_option Elab.async false
set_option linter.all false
set_option maxRecDepth 100000
set_option maxHeartbeats 4000000
set_option autoImplicit false
namespace NA
open PySem PySem.Spec PyProof.Rows L2
abbrev sCombination : Stmt := topS 32
abbrev nCombination : List Str := ["target", "books", "weights", "basis", "mark", "test", "rest", "added", "book", "pivot", "entry", "_", "room"]
theorem scCombination : FnScope nCombination ["target", "books"] (defScope sCombination) := ⟨rfl, rfl, rfl, by decide +kernel, rfl, by decide +kernel, by decide +kernel⟩
abbrev sRankOf : Stmt := topS 33
abbrev nRankOf : List Str := ["books", "weights", "book"]
theorem scRankOf : FnScope nRankOf ["books"] (defScope sRankOf) := ⟨rfl, rfl, rfl, by decide +kernel, rfl, by decide +kernel, by decide +kernel⟩
def wN (F : List (List Int)) (r : List Int) : Nat := ((getI (wts F) r).getD 0).toNat
def vecN (F rs : List (List Int)) : Nat := (rs.map (wN F)).sum
theorem getI_nat (F : List (List Int)) (r : List Int) : (getI (wts F) r).getD 0 = (wN F r : Int) := by
  unfold wN
  suffices h : 0 ≤ (getI (wts F) r).getD 0 by omega
  unfold getI
  cases e : (wts F).find? fun kv => decide (kv.1 = r) with
  | none => exact Int.le_refl _
  | some kv =>
    have hm := List.mem_of_find?_eq_some e
    unfold wts at hm
    obtain ⟨p, _, rfl⟩ := List.mem_map.mp hm
    exact Int.natCast_nonneg _
theorem vecI_nat (F : List (List Int)) : ∀ rs, vecI (wts F) rs = (vecN F rs : Int)
  | [] => rfl
  | r :: rs => by
    have ih := vecI_nat F rs
    unfold vecI vecN at ih ⊢
    simp only [List.map_cons, List.sum_cons]
    rw [ih, getI_nat]; omega
def testN (bs : List (Nat × Nat × Nat)) (mark : Nat) : Nat := mark + ((bs.filter fun b => decide (b.2.1 &&& mark ≠ 0)).map (·.1)).sum
def combB (F : List (List Int)) (rss : List (List (List Int))) : List (Nat × Nat × Nat) := fbF (rss.map (vecN F))
def combX (F : List (List Int)) (rs0 : List (List Int)) (rss : List (List (List Int))) : Nat × Nat := wpF (combB F rss) (vecN F rs0)
def combD (n s : Nat) (F : List (List Int)) (rs0 : List (List Int)) (rss : List (List (List Int))) : D :=
  if (combX F rs0 rss).1 = 0 then .tup [.str "sum", .tup ((bitsA 0 (combX F rs0 rss).2).map natD)]
  else .tup [.str "test", trooms (sel n s fun r => decide (r ∈ F) && decide (wN F r &&& testN (combB F rss) (low (combX F rs0 rss).1) ≠ 0))]
def rComb : List D → D → Prop := fun ds d => ∃ (n s : Nat) (rs0 : List (List Int)) (rss : List (List (List Int))), BOk n s rs0 ∧ (∀ rs ∈ rss, BOk n s rs) ∧ rss.length ≤ 20 ∧ ds = [bk n s rs0, .lst (rss.map fun rs => bk n s rs)] ∧
  (combX (firsts (rs0 :: rss).flatten) rs0 rss).2 < 2 ^ 64 ∧ d = combD n s (firsts (rs0 :: rss).flatten) rs0 rss
def rRank : List D → D → Prop := fun ds d => ∃ (n s : Nat) (rss : List (List (List Int))), (∀ rs ∈ rss, BOk n s rs) ∧ rss.length ≤ 21 ∧ ds = [.lst (rss.map fun rs => bk n s rs)] ∧ d = .int ((combB (firsts rss.flatten) rss).length : Nat)
theorem flat_len {n s : Nat} : ∀ {rss : List (List (List Int))}, (∀ rs ∈ rss, BOk n s rs) → rss.flatten.length ≤ rss.length * 20
  | [], _ => by simp
  | rs :: rss, h => by
    have ih := flat_len (rss := rss) fun q hq => h q (List.mem_cons_of_mem _ hq)
    have := (h rs List.mem_cons_self).len
    simp only [List.flatten_cons, List.length_append, List.length_cons]
    omega
def onB (g : List (List Int) → D) (d : D) : D := match d with
  | .book _ _ rs => g rs
  | _ => .non
theorem lcRes_mapB (n s : Nat) (g : List (List Int) → D) (rss : List (List (List Int))) : lcRes (fun _ => true) (onB g) (rss.map fun rs => bk n s rs) = rss.map g := by
  unfold lcRes
  rw [List.filter_eq_self.mpr (fun _ _ => rfl), List.map_map]
  exact List.map_congr_left fun r _ => rfl
def onT3f (g : List Int → Bool) (d : D) : Bool := onR g d
theorem sum_nat (l : List Nat) : ((l.map fun (x : Nat) => (x : Int)).sum : Int) = ((l.sum : Nat) : Int) := by
  induction l with
  | nil => rfl
  | cons a r ih => simp only [List.map_cons, List.sum_cons]; rw [ih]; omega
theorem lcRes_tri (bs : List (Nat × Nat × Nat)) (mark : Nat) : lcRes (onR fun l => decide ((l.getD 1 0).toNat &&& mark ≠ 0)) (onV fun l => .int (l.getD 0 0)) (bs.map tri) = ((bs.filter fun b => decide (b.2.1 &&& mark ≠ 0)).map (fun b => (b.1 : Int))).map D.int := by
  unfold lcRes
  induction bs with
  | nil => rfl
  | cons b t ih =>
    have e1 : onR (fun l => decide ((l.getD 1 0).toNat &&& mark ≠ 0)) (tri b) = decide (b.2.1 &&& mark ≠ 0) := by
      unfold tri; rw [onR_room]; show decide (((b.2.1 : Int)).toNat &&& mark ≠ 0) = _
      rw [Int.toNat_natCast]
    have e2 : onV (fun l => D.int (l.getD 0 0)) (tri b) = .int (b.1 : Int) := by unfold tri; rw [onV_room]; rfl
    rw [List.map_cons]
    by_cases h : b.2.1 &&& mark ≠ 0
    · rw [List.filter_cons_of_pos (by rw [e1]; exact decide_eq_true h), List.filter_cons_of_pos (p := fun b : Nat × Nat × Nat => decide (b.2.1 &&& mark ≠ 0)) (decide_eq_true h), List.map_cons, List.map_cons, List.map_cons, ih, e2]
    · rw [List.filter_cons_of_neg (by rw [e1]; simpa using h), List.filter_cons_of_neg (p := fun b : Nat × Nat × Nat => decide (b.2.1 &&& mark ≠ 0)) (by simpa using h), ih]
section
variable {P : Program} {w : World} {K : PySem.W.Frag} {mg : Str → Option Value} {base : Heap} {C : Addr}
theorem ok_combination {k : Nat} {f : Addr} {fd : FuncData} (F : Fun K "combination" "combination" sCombination f fd) (B : Bl mg)
    (D_check_alike : Def P w K mg base CX0 k "check_alike" ["first", "books"] (spR K C rAlike)) (D_room_weights : Def P w K mg base CX0 k "room_weights" ["books"] (spM K C rRW)) (D_vector : Def P w K mg base CX0 k "vector" ["book", "weights"] (spR K C rVec))
    (D_full_basis : Def P w K mg base CX0 k "full_basis" ["masks"] (spR K C rFB)) (D_without_pivots : Def P w K mg base CX0 k "without_pivots" ["basis", "mask"] (spR K C rWP)) (D_bits : Def P w K mg base CX0 k "bits" ["mask"] (spR K C rBits)) :
    FnOk P w K mg base CX0 (k + 1) f fd ["target", "books"] (spR K C rComb) := by
  refine fn_ev F scCombination (fun ds d h => by obtain ⟨n, s, rs0, rss, _, _, _, rfl, _⟩ := h; rfl) (fun ds d h cdv A outer st H E hr => ?_)
  obtain ⟨n, s, rs0, rss, ok0, oks, hl, rfl, hb, rfl⟩ := h
  refine ⟨_, (pss_cons (ps_expr (pe_cd D_check_alike (hr.mono (by omega)) (by rfl) pass0 (pa_cons (pv 0) (pa_cons (pv 1) pa_nil))))
      (pss_cons (ps_set (i := 2) scCombination.nd rfl (.inr rfl) (pe_cd D_room_weights (hr.mono (by omega)) (by rfl) pass0 (pa_cons (pe_op op_cat (pe_lst (pa_cons (pv 0) pa_nil)) (pe_callTy (kLst K) (by rfl) B.list (by decide +kernel) (pa_cons (pv 1) pa_nil))) pa_nil)))
      (pss_cons (ps_set (i := 3) scCombination.nd rfl (.inl rfl) (pe_cd D_full_basis (hr.mono (by omega)) (by rfl) pass0 (pa_cons (pe_lc (own := [("book", 8)]) (g := gName 8) (tt := tYes) (by rfl) scCombination.nd (pi_list (pv 1)) (blkOk_by (own := [("book", 8)]) (N := nCombination) (sc := defScope sCombination) (by decide +kernel)) (fun _ _ _ _ _ => (pg_name (i := 8) scCombination.nd rfl (.inl rfl))) (fun _ _ _ _ _ => pts_nil) (fun _ _ _ _ _ => (pe_cd D_vector (hr.mono (by omega)) (by rfl) pass0 (pa_cons (pv 8) (pa_cons (pv 2) pa_nil))))) pa_nil)))
      (pss_cons (ps_asg (pe_cd D_without_pivots (hr.mono (by omega)) (by rfl) pass0 (pa_cons (pv 3) (pa_cons (pe_cd D_vector (hr.mono (by omega)) (by rfl) pass0 (pa_cons (pv 0) (pa_cons (pv 2) pa_nil))) pa_nil))) (pg_tup (by rfl) (pgs_cons (pg_name (i := 6) scCombination.nd rfl (.inl rfl)) (pgs_cons (pg_name (i := 7) scCombination.nd rfl (.inl rfl)) pgs_nil))))
      (pss_cons (ps_if (pt_cmpR op_eq (pv 6) pe_int (nomark _)) (pss_one (ps_ret (pe_tup (pa_cons pe_str (pa_cons (pe_callTy cr_tup (by rfl) B.tuple (by decide +kernel) (pa_cons (pe_cd D_bits (hr.mono (by omega)) (by rfl) pass0 (pa_cons (pv 7) pa_nil)) pa_nil)) pa_nil))))) pss_nil)
      (pss_cons (ps_set (i := 4) scCombination.nd rfl (.inr rfl) (pe_op op_and (pv 6) (pe_un un_neg (pv 6))))
      (pss_cons (ps_set (i := 5) scCombination.nd rfl (.inr rfl) (pe_op op_add (pv 4) (pe_callB (cr_sum rfl) (by rfl) B.sum (by decide +kernel) (pa_cons (pe_lc (own := [("pivot", 9), ("entry", 10), ("_", 11)]) (g := gTup _ 3 (gCons (gName 9) (gCons (gName 10) (gCons (gName 11) gNil)))) (by rfl) scCombination.nd (pi_list (pv 3)) (blkOk_by (own := [("pivot", 9), ("entry", 10), ("_", 11)]) (N := nCombination) (sc := defScope sCombination) (by decide +kernel)) (fun _ _ _ _ _ => (pg_tup (by rfl) (pgs_cons (pg_name (i := 9) scCombination.nd rfl (.inl rfl)) (pgs_cons (pg_name (i := 10) scCombination.nd rfl (.inl rfl)) (pgs_cons (pg_name (i := 11) scCombination.nd rfl (.inl rfl)) pgs_nil))))) (fun _ _ _ _ _ => (pts_one (pt_cmpR op_ne (pe_op op_and (pv 10) (pv 4)) pe_int (nomark _)))) (fun _ _ _ _ _ => (pv 9))) pa_nil))))
      (pss_one (ps_ret (pe_tup (pa_cons pe_str (pa_cons (pe_callTy cr_tup (by rfl) B.tuple (by decide +kernel) (pa_cons (pe_callB NAX.cr_sortRL (by rfl) B.sorted (by decide +kernel) (pa_cons (pe_lock (pe_lc (own := [("room", 12)]) (g := gName 12) (by rfl) scCombination.nd (pi_keys (pv 2)) (blkOk_by (own := [("room", 12)]) (N := nCombination) (sc := defScope sCombination) (by decide +kernel)) (fun _ _ _ _ _ => (pg_name (i := 12) scCombination.nd rfl (.inl rfl))) (fun _ _ _ _ _ => (pts_one (pt_cmpR op_ne (pe_op op_and (pe_dget (hu_of hr) (pv 2) (pv 12) (fun _ _ => rfl)) (pv 5)) pe_int (nomark _)))) (fun _ _ _ _ _ => (pv 12)))) pa_nil)) pa_nil)) pa_nil)))))))))))), fun S0 H0 => ?_⟩
  have hfl : (rs0 :: rss).flatten.length < 1000 := by
    have := flat_len (rss := rs0 :: rss) (n := n) (s := s) (fun q hq => (List.mem_cons.mp hq).elim (fun e => e ▸ ok0) (oks q))
    simp only [List.length_cons] at this; omega
  have hFl := firsts_len (rs0 :: rss).flatten
  have hmem : ∀ rs ∈ (rs0 :: rss), ∀ r ∈ rs, r ∈ (wts (firsts (rs0 :: rss).flatten)).map (·.1) := fun rs hrs r hr' => by
    rw [wts_keys, firsts_mem]; exact List.mem_flatten.mpr ⟨rs, hrs, hr'⟩
  have hF7 : ∀ r ∈ firsts (rs0 :: rss).flatten, r ∈ allR n s := fun r hr' => by
    rw [firsts_mem] at hr'
    obtain ⟨rs, hrs, hq⟩ := List.mem_flatten.mp hr'
    rcases List.mem_cons.mp hrs with e | hrs
    · subst e; exact ok0.sub.subset hq
    · exact (oks rs hrs).sub.subset hq
  have hFnd := firsts_nd (rs0 :: rss).flatten
  refine sv_seq (sv_drop (ev_call0 (ea_cons (ev_var rfl) (ea_cons (ev_var rfl) ea_nil)) ⟨n, s, rs0, rss, rfl, rfl⟩) ?_)
  refine sv_seq (sv_asgM (kz := wts (firsts (rs0 :: rss).flatten)) (ea_cons (ev_op (ev_lst (ea_cons (ev_var rfl) ea_nil) (by simp)) (ev_cb (ea_cons (ev_var rfl) ea_nil) rc_lstL) (rv_catL (by simp; omega))) ea_nil) ⟨n, s, rs0 :: rss, rfl, hfl, rfl⟩ (by rw [wts_len]; omega) ?_)
  generalize firsts (rs0 :: rss).flatten = F at *
  refine sv_seq (sv_asg (ev_call0 (ea_cons (ev_is (ev_lcL (fun _ => true) (onB fun rs => .int (vecI (wts F) rs)) (ev_var rfl) (fun d hd => ?_)) (d := .lst ((rss.map (vecN F)).map natD)) ?_) ea_nil) ⟨rss.map (vecN F), rfl, by rw [List.length_map]; omega, rfl⟩) ?_)
  · obtain ⟨rs, hrs, rfl⟩ := List.mem_map.mp hd
    refine cstep_name (by simp) et_yes (fun _ => ?_)
    exact ev_freezeD (i := 2) (kz := wts F) rfl (ev_call0 (ea_cons (ev_var rfl) (ea_cons (ev_var rfl) ea_nil)) ⟨n, s, rs, wts F, rfl, fun r hr' => hmem rs (List.mem_cons_of_mem _ hrs) r hr', rfl⟩)
  · rw [lcRes_mapB, List.map_map]
    exact congrArg D.lst (List.map_congr_left fun rs _ => congrArg D.int (vecI_nat F rs))
  refine sv_seq (sv_asgT (d := room [((combX F rs0 rss).1 : Int), ((combX F rs0 rss).2 : Int)]) (ev_call0 (ea_cons (ev_var rfl) (ea_cons (ev_is (ev_freezeD (i := 2) (kz := wts F) rfl (ev_call0 (ea_cons (ev_var rfl) (ea_cons (ev_var rfl) ea_nil)) ⟨n, s, rs0, wts F, rfl, fun r hr' => hmem rs0 List.mem_cons_self r hr', rfl⟩)) (congrArg D.int (vecI_nat F rs0))) ea_nil)) ⟨combB F rss, vecN F rs0, rfl, rfl⟩) (tg_tup (tgl_cons tg_name (tgl_cons tg_name tgl_nil)) rfl) (gset2 6 7) ?_)
  unfold combD
  generalize hx : combX F rs0 rss = x at hb ⊢
  obtain ⟨rest, added⟩ := x
  dsimp only at hb ⊢
  refine sv_seq (sv_if (et_test (ev_op (ev_var rfl) ev_int rv_eqI)) (fun z => ?_) (fun z => sv_next ?_))
  · have hz : rest = 0 := by have := of_decide_eq_true z; omega
    rw [if_pos hz]
    refine sv_ret (ev_tup (ea_cons ev_str (ea_cons (ev_cb (ea_cons (ev_call0 (ea_cons (ev_var rfl) ea_nil) ⟨added, rfl, hb, rfl⟩) ea_nil) rc_tupL) ea_nil)) (by simp)) rfl
  · have hz : ¬ rest = 0 := by have := of_decide_eq_false z; omega
    rw [if_neg hz]
    refine sv_seq (sv_asg (ev_op (ev_var rfl) (ev_un (ev_var rfl) ru_neg) rv_I0) ?_)
    rw [and_neg]
    refine sv_seq (sv_asg (d := natD (testN (combB F rss) (low rest))) (ev_is (ev_op (ev_var rfl) (ev_cb (ea_cons (ev_is (ev_lcL (onR fun l => decide ((l.getD 1 0).toNat &&& low rest ≠ 0)) (onV fun l => .int (l.getD 0 0)) (ev_var rfl) (fun d hd => ?_)) (d := .lst ((((combB F rss).filter fun b => decide (b.2.1 &&& low rest ≠ 0)).map (fun b => (b.1 : Int))).map D.int)) ?_) ea_nil) rc_sum) rv_I0) ?_) ?_)
    · obtain ⟨b, hb', rfl⟩ := List.mem_map.mp hd
      refine ⟨[9, 10, 11], _, by simp, tg_tup (tgl_cons tg_name (tgl_cons tg_name (tgl_cons tg_name tgl_nil))) rfl, et_is (et_test (ev_op (ev_op (ev_var rfl) (ev_var rfl) rv_I0) ev_int rv_neI)) ?_, fun _ => ?_⟩
      · show _ = onR _ (room _)
        rw [and_nn, onR_room]
        show (!decide (((b.2.1 &&& low rest : Nat) : Int) = 0)) = decide (((b.2.1 : Int)).toNat &&& low rest ≠ 0)
        rw [Int.toNat_natCast]
        by_cases h0 : b.2.1 &&& low rest = 0 <;> simp [h0]
      · refine ev_is (ev_var rfl) ?_
        show _ = onV _ (room _)
        rw [onV_room]; rfl
    · exact congrArg D.lst (lcRes_tri (combB F rss) (low rest))
    · unfold natD testN
      congr 1
      have := sum_nat (((combB F rss).filter fun b => decide (b.2.1 &&& low rest ≠ 0)).map (·.1))
      rw [List.map_map] at this
      have h2 : ((fun (x : Nat) => (x : Int)) ∘ fun (x : Nat × Nat × Nat) => x.1) = fun (b : Nat × Nat × Nat) => (b.1 : Int) := rfl
      rw [h2] at this
      rw [this]; omega
    generalize testN (combB F rss) (low rest) = tst
    have srt : SortTo (((wts F).map (·.1)).filter fun r => decide (wN F r &&& tst ≠ 0)) (sel n s fun r => decide (r ∈ F) && decide (wN F r &&& tst ≠ 0)) s := by
      rw [wts_keys]
      refine sel_sort ok0.n7 ok0.s8 (hFnd.sublist List.filter_sublist) fun r => ?_
      rw [List.mem_filter, Bool.and_eq_true]
      constructor
      · rintro ⟨h1, h2⟩; exact ⟨hF7 r h1, by simpa using h1, h2⟩
      · rintro ⟨h1, h2, h3⟩; exact ⟨by simpa using h2, h3⟩
    refine sv_ret (ev_tup (ea_cons ev_str (ea_cons (ev_cb (ea_cons (ev_cb (ea_cons (ev_is (ev_lcD (i := 2) (kvs := kD (wts F)) rfl (onR fun r => decide (wN F r &&& tst ≠ 0)) id (fun kv h => ?_) (fun kv h => ?_)) (congrArg D.lst (lcRes_keys (wts F) _ _ (onR_room _) id fun _ => rfl))) ea_nil) (rc_sortRL srt)) ea_nil) rc_tupL) ea_nil)) (by simp)) rfl
    · have h1 := mem_kD h
      rw [wts_keys] at h1
      have := (roomOk ok0.n7 ok0.s8 (hF7 _ h1)).len
      have := ok0.s8; omega
    · obtain ⟨z, hz⟩ := get_mem (mem_kD h)
      have hw : z = (wN F kv.1 : Int) := by have := getI_nat F kv.1; rw [hz] at this; exact this
      subst hw
      refine cstep_name (by simp) (et_is (et_test (ev_op (ev_op (ev_getz rfl .fd (ev_var rfl) hz) (ev_var rfl) rv_I0) ev_int rv_neI)) ?_) (fun _ => ev_var rfl)
      rw [onR_room, and_nn]
      by_cases h0 : wN F kv.1 &&& tst = 0 <;> simp [h0]
theorem ok_rank_of {k : Nat} {f : Addr} {fd : FuncData} (F : Fun K "rank_of" "rank_of" sRankOf f fd) (B : Bl mg)
    (D_check_alike : Def P w K mg base CX0 k "check_alike" ["first", "books"] (spR K C rAlike)) (D_room_weights : Def P w K mg base CX0 k "room_weights" ["books"] (spM K C rRW)) (D_vector : Def P w K mg base CX0 k "vector" ["book", "weights"] (spR K C rVec))
    (D_full_basis : Def P w K mg base CX0 k "full_basis" ["masks"] (spR K C rFB)) : FnOk P w K mg base CX0 (k + 1) f fd ["books"] (spR K C rRank) := by
  refine fn_ev F scRankOf (fun ds d h => by obtain ⟨n, s, rss, _, _, rfl, _⟩ := h; rfl) (fun ds d h cdv A outer st H E hr => ?_)
  obtain ⟨n, s, rss, oks, hl, rfl, rfl⟩ := h
  refine ⟨_, (pss_cons (ps_if (pt_cmpR op_eq (pe_callB (kLen K) (by rfl) B.len (by decide +kernel) (pa_cons (pv 0) pa_nil)) pe_int (nomark _)) (pss_one (ps_ret pe_int)) pss_nil)
      (pss_cons (ps_expr (pe_cd D_check_alike (hr.mono (by omega)) (by rfl) pass0 (pa_cons (pe_ix (kIxL K) (pv 0) pe_int (fun _ _ => rfl)) (pa_cons (pv 0) pa_nil))))
      (pss_cons (ps_set (i := 1) scRankOf.nd rfl (.inr rfl) (pe_cd D_room_weights (hr.mono (by omega)) (by rfl) pass0 (pa_cons (pv 0) pa_nil)))
      (pss_one (ps_ret (pe_callB (kLen K) (by rfl) B.len (by decide +kernel) (pa_cons (pe_cd D_full_basis (hr.mono (by omega)) (by rfl) pass0 (pa_cons (pe_lc (own := [("book", 2)]) (g := gName 2) (tt := tYes) (by rfl) scRankOf.nd (pi_list (pv 0)) (blkOk_by (own := [("book", 2)]) (N := nRankOf) (sc := defScope sRankOf) (by decide +kernel)) (fun _ _ _ _ _ => (pg_name (i := 2) scRankOf.nd rfl (.inl rfl))) (fun _ _ _ _ _ => pts_nil) (fun _ _ _ _ _ => (pe_cd D_vector (hr.mono (by omega)) (by rfl) pass0 (pa_cons (pv 2) (pa_cons (pv 1) pa_nil))))) pa_nil)) pa_nil))))))), fun S0 H0 => ?_⟩
  cases rss with
  | nil => exact sv_seq (sv_if (et_test (ev_op (ev_cb (ea_cons (ev_var rfl) ea_nil) rc_lenL) ev_int rv_eqI)) (fun _ => sv_ret ev_int rfl) (fun z => by simp at z))
  | cons rs0 rest =>
  have hfl : (rs0 :: rest).flatten.length < 1000 := by
    have := flat_len oks
    omega
  have hFl := firsts_len (rs0 :: rest).flatten
  have hmem : ∀ rs ∈ (rs0 :: rest), ∀ r ∈ rs, r ∈ (wts (firsts (rs0 :: rest).flatten)).map (·.1) := fun rs hrs r hr' => by
    rw [wts_keys, firsts_mem]; exact List.mem_flatten.mpr ⟨rs, hrs, hr'⟩
  refine sv_seq (sv_if (et_test (ev_op (ev_cb (ea_cons (ev_var rfl) ea_nil) rc_lenL) ev_int rv_eqI)) (fun z => ?_) (fun _ => sv_next ?_))
  · rw [List.length_map] at z
    have := of_decide_eq_true z; simp only [List.length_cons] at this; omega
  refine sv_seq (sv_drop (ev_call0 (ea_cons (ev_op (ev_var rfl) ev_int (rv_ixL (j := 0) rfl rfl)) (ea_cons (ev_var rfl) ea_nil)) ⟨n, s, rs0, rs0 :: rest, rfl, rfl⟩) ?_)
  refine sv_seq (sv_asgM (kz := wts (firsts (rs0 :: rest).flatten)) (ea_cons (ev_var rfl) ea_nil) ⟨n, s, rs0 :: rest, rfl, hfl, rfl⟩ (by rw [wts_len]; omega) ?_)
  generalize firsts (rs0 :: rest).flatten = F at *
  refine sv_ret (ev_is (ev_cb (ea_cons (ev_call0 (ea_cons (ev_is (ev_lcL (fun _ => true) (onB fun rs => .int (vecI (wts F) rs)) (ev_var rfl) (fun d hd => ?_)) (d := .lst (((rs0 :: rest).map (vecN F)).map natD)) ?_) ea_nil) ⟨(rs0 :: rest).map (vecN F), rfl, by rw [List.length_map]; omega, rfl⟩) ea_nil) rc_lenL) ?_) rfl
  · obtain ⟨rs, hrs, rfl⟩ := List.mem_map.mp hd
    refine cstep_name (by simp) et_yes (fun _ => ?_)
    exact ev_freezeD (i := 1) (kz := wts F) rfl (ev_call0 (ea_cons (ev_var rfl) (ea_cons (ev_var rfl) ea_nil)) ⟨n, s, rs, wts F, rfl, fun r hr' => hmem rs hrs r hr', rfl⟩)
  · rw [lcRes_mapB, List.map_map]
    exact congrArg D.lst (List.map_congr_left fun rs _ => congrArg D.int (vecI_nat F rs))
  · rw [List.length_map]; rfl
end
end NA

set_option Elab.async false
set_option linter.all false
set_option maxRecDepth 100000
set_option maxHeartbeats 4000000
set_option autoImplicit false
namespace NE
open PySem PySem.W PySem.Calls PyProof.Rows PySem.HandSPX NA
/-! ### Mismatch, NotEven: super().__init__('..'), then the fields -/
abbrev sMis : Stmt := L2.inClass (topS 5) 0
abbrev sNev : Stmt := L2.inClass (topS 6) 0
/-- what the written part says of such a class, at C, and of its __init__, at fI -/
structure ETxt (prog : Program) (K : Frag) (mg : Str → Option Value) (x qual : Str) (st : Stmt) (C fI : Addr) : Prop where
  gC : mg x = some (.ref C)
  cls : ∃ nm q N bs bm sn sub ab col dd k0 k1 k2 k3 k5, K.lookup C = some (excClassObj nm q C N bs bm true sn sub ab col dd k0 k1 k2 k3 k5 "ValueError.__new__") ∧ refsVE bm = true ∧ alongIn K "__init__" bm = some (some (.builtin "ValueError.__init__"))
  sa : findIn K (.ref C) "__setattr__" = some (some (.builtin "object.__setattr__"))
  ga : findIn K (.ref C) "__getattribute__" = some (some (.builtin "BaseException.__getattribute__"))
  gg : findIn K (.ref C) "__getattr__" = some none
  iC : findIn K (.ref C) "__init__" = some (some (.ref fI))
  tI : typeIn K (.ref fI) = some (.type "function")
  kC : keepIn K (.ref C) = true
  exC : subIn K (.ref C) (.type "BaseException") = some true
  veC : subIn K (.ref C) (.type "ValueError") = some true
  tyC : typeIn K (.ref C) = some (.type "type")
  hdC : hasDictIn K C = true
  opq : nsIn K cStatics "thirdparty.any" = some none
  mgS : mg "super" = none
  top : (prog.main.scope.names.lookup ("super" : Str)).isSome = false
  fn : ∃ (oc : Value) (od : Option Addr) (kV doc pm : Value) (an : Option Addr) (ct : Value) (osl : Array (Option Value)) (cda cc : Addr),
    K.lookup fI = some ⟨oc, od, .func (ksFn "__init__" qual (L2.defArgs st) (L2.defBody st) (L2.defScope st) .none kV doc pm an (.ref cda) ct cc), osl⟩ ∧ codeIn K (.ref cda) qual = true ∧
    (∃ ccl cdd vs ccs file tf, K.lookup cda = some ⟨ccl, cdd, .fields vs, ccs⟩ ∧ vs[2]? = some (.str file tf) ∧ ((prog.main.file : Str) == file) = true) ∧
    ∃ cl cld csl, K.lookup cc = some ⟨cl, cld, .cell (some (.ref C)), csl⟩
section
variable {prog : Program} {w : World} {M : Model} {A : Around} {E : Value → Shared → Prop} {R : Result → Shared → Prop} {s : Shared} {K : Frag} {mg : Str → Option Value} {C fI : Addr} {x0 qual : Str} {st : Stmt}
theorem ldL {env : Env} {m : Str → Option Value} {x : Str} {pos : Pos} {v : Value} {Q : Value → Shared → Prop} (hn : s.heap.Ns env.locals m) (hv : m x = some v) (h : Q v s)
    (hk : env.scope.kind = .function := by rfl) (hl : env.kindOf x = some .local := by rfl) (hd : (x == ("__debug__" : Str)) = false := by decide) : wpAny M A (eval (.Name x pos) env) Q E s := wpAny_Name (wpAny_loadName_local hk hl hn hv h) hd
theorem callWith_mw {pos : Pos} {u x : Addr} {env : Env} {e : Expr} {rest : List Expr} {Q : Value → Shared → Prop}
    (h : wpAny M A (spliced (backTo pos (starEach (e :: rest) env))) (fun vs s₁ => KxsAt "ValueError.__init__" u x s₁.heap ∧ wpAny M A (call (.ref u) vs) Q E s₁) E s)
    (he : starEach (e :: rest) env = (false, eval e env) :: starEach rest env := by rfl) (hplain : (backTo pos (starEach rest env)).any (·.1) = false := by rfl) :
    wpAny M A (callWith pos (.ref u) [] (backTo pos (starEach (e :: rest) env)) []) Q E s := by
  rw [he] at h ⊢
  refine kxs_callWith (i := "ValueError.__init__") (x := x) (by show (false || (backTo pos (starEach rest env)).any (·.1)) = false; rw [hplain]; rfl) ?_
  exact evalArgs_plain h
end
section
variable {prog : Program} {w : World} {A : Around} {E : Value → Shared → Prop} {h : Heap} {g : Array GenState} {d : Drawn} {t : Nat} {os : OsState}
variable {nm q : Str} {C N : Addr} {bs bm : List Value} {hdct : Bool} {sn : List Str} {sub : List Value} {ab : Bool} {col : Option Bool} {dd : Option Addr} {k0 k1 k2 k3 k5 : Option Value}
theorem call_mw {u e t0 : Addr} {rest : List Value} {Q : Value → Shared → Prop}
    (hC : h.get? C = some (excClassObj nm q C N bs bm hdct sn sub ab col dd k0 k1 k2 k3 k5 "ValueError.__new__")) (he : h.get? e = some (excO C t0)) (hu : h.get? u = some (kxs_mw "ValueError.__init__" e)) (hrest : rest.length ≤ sizeLine)
    (hq : ∀ h' t1, (∀ b o, b ≠ e → h.get? b = some o → h'.get? b = some o) → h'.get? e = some (excO C t1) → Q .none ⟨h', g, d, t, os⟩) :
    wpAny (model prog w) A (call (.ref u) rest) Q E ⟨h, g, d, t, os⟩ := by
  refine wpAny_call (codeAny_of_tree ?_)
  show wpAny _ A.in1 (callAny (.ref u) ⟨rest, []⟩) _ _ _
  simp only [callAny]
  refine wpAny_bind (wpAny_load hu ?_)
  simp only [kxs_mw, show (Value.type "method-wrapper" == Value.type "method" || Value.type "method-wrapper" == Value.type "builtin_function_or_method" || Value.type "method-wrapper" == Value.type "method-wrapper") = true by decide, if_true]
  refine W.KFB.if_so (by decide) ?_
  refine wpAny_bind (check_bound_init F.excBase_ValueError.toExcCallFacts hC he rfl ?_)
  refine wpAny_bind (wpAny_pure (wpAny_pure ?_))
  refine ⟨Code.quiet_builtin _ (by decide +kernel), codeAny_builtin F.excBase_ValueError.initEntry ?_⟩
  rw [Around.under_plainId F.excBase_ValueError.init.plain _]
  wp_walk
  refine hq _ h.objs.size (fun b o hb ho => ?_) ?_
  · rw [Heap.get?_update_other _ _ (Ne.symm hb)]
    exact Heap.get?_push_of_some _ ho
  · rw [Heap.get?_update_self _ (Heap.get?_push_of_some _ he) rfl]
    rfl
end
section
variable {prog : Program} {w : World} {A : Around} {E : Value → Shared → Prop} {s : Shared} {K : Frag} {mg mb : Str → Option Value} {C fI : Addr} {x0 qual : Str} {st : Stmt}
theorem at_super {body : List Stmt} {scope : Scope} {L x t0 cda cc : Addr} {m : Str → Option Value} {fd : FuncData} {ar : Arg} {Q : Flow → Shared → Prop} {a1 a2 a3 a4 a5 a6 : Pos} {msg : Str} {kk : Nat}
    (T : ETxt prog K mg x0 qual st C fI) (X : K.In s.heap) (hg : s.heap.Ns mainGlobals mg) (hb : s.heap.Ns builtinsNs mb) (hmb : mb "super" = some (.type "super")) (hn : s.heap.Ns L m) (hx : s.heap.get? x = some (excO C t0))
    {oc : Value} {od : Option Addr} {osl : Array (Option Value)} (hf : K.lookup fI = some ⟨oc, od, .func fd, osl⟩) (hp : (fd.params.posonlyargs ++ fd.params.args).head? = some ar) (hv : m ar.arg = some (.ref x))
    {ccl : Value} {cdd : Option Addr} {vs : Array Value} {ccs : Array (Option Value)} {file : Str} {tf : Tok} (hcode : K.lookup cda = some ⟨ccl, cdd, .fields vs, ccs⟩) (hvs : vs[2]? = some (.str file tf)) (hfile : ((prog.main.file : Str) == file) = true)
    {cl : Value} {cld : Option Addr} {csl : Array (Option Value)} (hcell : K.lookup cc = some ⟨cl, cld, .cell (some (.ref C)), csl⟩)
    (hks : scope.names.lookup ("super" : Str) = some .globalImplicit) (hkc : scope.names.lookup ("__class__" : Str) = some .free) (hka : scope.names.lookup ar.arg = some .local) (hk : scope.kind = .function)
    (he : eval (.Call (.Attribute (.Call (.Name "super" a1) [] [] a2) "__init__" a3) [.Constant (.str msg) kk a4] [] a5) (ksEnv qual scope L fI (.ref cda) cc) = (do
      let ov ← attributeBase (.Call (.Name "super" a1) [] [] a2) "__init__" (ksEnv qual scope L fI (.ref cda) cc) (eval (.Call (.Name "super" a1) [] [] a2) (ksEnv qual scope L fI (.ref cda) cc))
      standAt a3.atName
      let (f, first) ← holding [ov] (getMethod ov "__init__" (pure false))
      callWith a5 f first (backTo a5 (starEach [.Constant (.str msg) kk a4] (ksEnv qual scope L fI (.ref cda) cc))) []) := by rfl)
    (hi : interactive (ksEnv qual scope L fI (.ref cda) cc) = false := by rfl) (hs : swapsWith (.Call (.Attribute (.Call (.Name "super" a1) [] [] a2) "__init__" a3) [.Constant (.str msg) kk a4] [] a5) none a6.line (ksEnv qual scope L fI (.ref cda) cc) = pure false := by rfl)
    (h : ∀ h' tk t1, (∀ b o, b ≠ x → s.heap.get? b = some o → h'.get? b = some o) → h'.get? x = some (excO C t1) → Q .next { s with heap := h', toks := tk }) :
    _root_.PySem.wpAt (model prog w) A (.func body (ksEnv qual scope L fI (.ref cda) cc)) (exec (.Expr (.Call (.Attribute (.Call (.Name "super" a1) [] [] a2) "__init__" a3) [.Constant (.str msg) kk a4] [] a5) a6) (ksEnv qual scope L fI (.ref cda) cc)) Q E s := by
  obtain ⟨nm, q, N, bs, bm, sn, sub, ab, col, dd, k0, k1, k2, k3, k5, hC, hbm, hal⟩ := T.cls
  have hclI : clsIn K C = some { name := nm, bases := bs, mro := .ref C :: bm, ns := N, qualname := q, hasDict := true, slotNames := sn, subclasses := sub, abstract := ab, collection := col, hasDel := false } := by unfold clsIn; rw [hC] <;> rfl
  have hsub : mroIn K C (.ref C) = some true := by
    unfold mroIn
    rw [hclI, Option.bind_some]
    simp
  have I : InstAt s.heap x (excO C t0) C none := ⟨hx, rfl, rfl, trivial⟩
  refine ks_wpAt_Expr_any (ks_wpAt_MethodCall (pl := pure false) ?_ he) hi hs
  refine ks_wpAt_super_base (env := ksEnv qual scope L fI (.ref cda) cc) hks hkc rfl rfl (X _ _ hf) rfl hp rfl (X _ _ hcode) rfl hvs hfile T.top ?_
  refine ks_loadName_global hk hks (loadGlobal_builtin (env := ksEnv qual scope L fI (.ref cda) cc) hg T.mgS hb hmb ⟨rfl, ?_⟩)
  refine wpAny_loadName_free hk hkc rfl ⟨_, X _ _ hcell, rfl⟩ ?_
  refine wpAny_loadName_local hk hka hn hv ?_
  have hCh := X _ _ hC
  obtain ⟨hh, g, d, tk, os⟩ := s
  refine ks_wpAny_isType_cls hCh rfl ⟨rfl, ?_⟩
  refine ks_wpAny_call_super hCh rfl hx rfl (fun c e => by cases e) (looks_mroIn X hsub) (fun h1 e1 k1 => ?_)
  have X1 : K.In h1 := X.keeps k1
  have I1 : InstAt h1 x (excO C t0) C none := ⟨k1 _ _ hx, rfl, rfl, trivial⟩
  refine kxs_getMethod kxs_ValueError e1 (looks_opaque X1 T.opq) (l₀ := .ref C :: bm) ?_ (l := bm) (by simp [List.dropWhile_cons]) X1 hal (I1.type.andThen (looks_subIn X1 T.veC)) (ks_ne X1 I1 hclI) rfl ?_
  · exact fun A Q E s k q => wpAny_bind ((looks_clsIn X1 hclI) A _ E s k (wpAny_pure q))
  have k2 : ∀ b o, h1.get? b = some o → (h1.push (kxs_mw "ValueError.__init__" x)).get? b = some o := fun b o e => Heap.get?_push_of_some _ e
  have hu : (h1.push (kxs_mw "ValueError.__init__" x)).get? h1.objs.size = some (kxs_mw "ValueError.__init__" x) := Heap.get?_push_at rfl rfl
  refine callWith_mw (x := x) ?_
  refine PyProof.Rows.args_cons (Calls.Constant_str (PyProof.Rows.args_nil ⟨hu, ?_⟩)) rfl
  refine call_mw (k2 _ _ (k1 _ _ hCh)) (k2 _ _ (k1 _ _ hx)) hu (by rw [sizeLine_eq]; exact (by decide : 1 ≤ 16777216)) fun h' t1 k3 e3 => ?_
  exact h h' _ t1 (fun b o hb e => k3 b o hb (k2 _ _ (k1 _ _ e))) e3
end
/-- what __init__ leaves of a fresh exception at x -/
structure InitEnd (h h' : Heap) (x C dx t1 : Addr) (m : Str → Option Value) : Prop where
  keep : ∀ b o, b ≠ x → h.get? b = some o → h'.get? b = some o
  obj : h'.get? x = some { cls := .ref C, dict := some dx, data := .fields #[.ref t1, .none, .none, .none, .bool false, .none] }
  dbig : h.objs.size ≤ dx
  dne : dx ≠ x
  ns : h'.Ns1 dx m
structure OwnMade (h h' : Heap) (e C d : Addr) (m : Str → Option Value) : Prop where
  keep : ∀ b o, h.get? b = some o → h'.get? b = some o
  new : h.objs.size ≤ e
  obj : ∃ oe vs, h'.get? e = some oe ∧ oe.cls = .ref C ∧ oe.dict = some d ∧ oe.data = .fields vs ∧ vs[1]? = some .none
  dbig : h.objs.size ≤ d
  dne : d ≠ e
  ns : h'.Ns1 d m
theorem kept_but {K : Frag} {h h' : Heap} {x : Addr} (X : K.In h) (hx : K.lookup x = none) (k : ∀ b o, b ≠ x → h.get? b = some o → h'.get? b = some o) : K.In h' := fun a o e =>
  k a o (fun z => by rw [z, hx] at e; cases e) (X a o e)
abbrev mFault (v : Value) : Str → Option Value := fun y => if y = "fault" then some v else none
abbrev mNev (a f : Value) : Str → Option Value := fun y => if y = "face" then some f else if y = "at" then some a else none
section
variable {prog : Program} {w : World} {A : Around} {E : Value → Shared → Prop} {R : Result → Shared → Prop} {s : Shared} {K : Frag} {mg mb : Str → Option Value} {C fI : Addr}
theorem mis_init (T : ETxt prog K mg "Mismatch" "Mismatch.__init__" sMis C fI) (no : findIn K (.ref C) "fault" = some none) {x t0 : Addr} {v : Value} (X : K.In s.heap) (hlim : s.heap.NoLimit) (hg : s.heap.Ns mainGlobals mg) (hb : s.heap.Ns builtinsNs mb) (hmb : mb "super" = some (.type "super"))
    (hx : s.heap.get? x = some (excO C t0)) (hnx : K.lookup x = none) (hroom : A.depth < recursionLimit) (hq : ∀ h' tk dx t1, InitEnd s.heap h' x C dx t1 (mFault v) → R (.ok (.ret .none)) { s with heap := h', toks := tk }) :
    codeAny (model prog w) A (.call (.ref fI) ⟨[.ref x, v], []⟩) R s := by
  obtain ⟨oc, od, kV, doc, pm, an, ct, osl, cda, cc, lk, hcd, ⟨ccl, cdd, vs, ccs, file, tf, hcode, hvs, hfile⟩, ⟨cl, cld, csl, hcell⟩⟩ := T.fn
  obtain ⟨nm, q, N, bs, bm, sn, sub, ab, col, dd, k0, k1, k2, k3, k5, hC, hbm, _⟩ := T.cls
  have hclI : clsIn K C = some { name := nm, bases := bs, mro := .ref C :: bm, ns := N, qualname := q, hasDict := true, slotNames := sn, subclasses := sub, abstract := ab, collection := col, hasDel := false } := by unfold clsIn; rw [hC] <;> rfl
  refine ks_codeAny_call_defAt (fd := ksFn "__init__" "Mismatch.__init__" (L2.defArgs sMis) (L2.defBody sMis) (L2.defScope sMis) .none kV doc pm an (.ref cda) ct cc) (body := L2.defBody sMis) (binds := [("self", .ref x), ("fault", v)]) hroom (X _ _ lk) rfl hlim (codeRec_of X hcd) rfl (BindsTo.of_eq (by rfl)) (show ∀ x ∈ (L2.defScope sMis).names, x.2 ≠ .cell from by decide +kernel) (by
    intro y hy
    rcases List.mem_cons.mp hy with rfl | hy
    · rfl
    rcases List.mem_cons.mp hy with rfl | hy
    · rfl
    cases hy) (fun h₁ hns hk₁ => ?_) rfl rfl rfl
  refine ks_wpAt_execs_cons (at_super T (X.keeps hk₁) (hg.keeps hk₁) (hb.keeps hk₁) hmb hns (hk₁ _ _ hx) lk rfl (by rfl) hcode hvs hfile hcell rfl rfl rfl rfl (h := fun h2 tk t1 kk2 e2 => ?_))
  refine wpAt_of_wpAny ?_
  have hLx : s.heap.objs.size ≠ x := Nat.ne_of_gt (Heap.lt_size hx)
  have X2 : K.In h2 := kept_but (X.keeps hk₁) hnx kk2
  obtain ⟨oL, es, ep, hL, rL⟩ := hns
  have hlt := Heap.lt_size (show h₁.get? s.heap.objs.size = some oL from hL)
  have hns2 : h2.Ns s.heap.objs.size _ := ⟨oL, es, ep, kk2 _ _ hLx hL, rL⟩
  refine wpAny_execs_cons (plainObj_wpAny_Assign_Attribute ?_)
  refine ldL (v := v) hns2 (by first | rfl | with_unfolding_all rfl | kernel_rfl) (ldL (v := .ref x) hns2 (by first | rfl | with_unfolding_all rfl | kernel_rfl) ?_)
  refine set_plain X2 (ox := excO C t1) (od := none) ⟨e2, rfl, rfl, trivial⟩ T.sa ?_
  refine exc_osa X2 e2 hclI (show refsVE (.ref C :: bm) = true from hbm) rfl no (fun h3 tk3 dx kk3 dn dne hx3 hn3 => ?_)
  show wpAny _ _ (execs _ _) _ _ _
  have hlt2 := Heap.lt_size (kk2 _ _ hLx hL)
  exact wpAny_execs_nil (hq h3 tk3 dx _ ⟨fun b o hb e => kk3 b o hb (kk2 b o hb (hk₁ b o e)), hx3, Nat.le_of_lt (Nat.lt_of_lt_of_le hlt2 dn), dne, hn3⟩)
theorem nev_init (T : ETxt prog K mg "NotEven" "NotEven.__init__" sNev C fI) (no1 : findIn K (.ref C) "at" = some none) (no2 : findIn K (.ref C) "face" = some none) {x t0 : Addr} {va vf : Value} (X : K.In s.heap) (hlim : s.heap.NoLimit) (hg : s.heap.Ns mainGlobals mg) (hb : s.heap.Ns builtinsNs mb) (hmb : mb "super" = some (.type "super"))
    (hx : s.heap.get? x = some (excO C t0)) (hnx : K.lookup x = none) (hroom : A.depth < recursionLimit) (hq : ∀ h' tk dx t1, InitEnd s.heap h' x C dx t1 (mNev va vf) → R (.ok (.ret .none)) { s with heap := h', toks := tk }) :
    codeAny (model prog w) A (.call (.ref fI) ⟨[.ref x, va, vf], []⟩) R s := by
  obtain ⟨oc, od, kV, doc, pm, an, ct, osl, cda, cc, lk, hcd, ⟨ccl, cdd, vs, ccs, file, tf, hcode, hvs, hfile⟩, ⟨cl, cld, csl, hcell⟩⟩ := T.fn
  obtain ⟨nm, q, N, bs, bm, sn, sub, ab, col, dd, k0, k1, k2, k3, k5, hC, hbm, _⟩ := T.cls
  have hclI : clsIn K C = some { name := nm, bases := bs, mro := .ref C :: bm, ns := N, qualname := q, hasDict := true, slotNames := sn, subclasses := sub, abstract := ab, collection := col, hasDel := false } := by unfold clsIn; rw [hC] <;> rfl
  refine ks_codeAny_call_defAt (fd := ksFn "__init__" "NotEven.__init__" (L2.defArgs sNev) (L2.defBody sNev) (L2.defScope sNev) .none kV doc pm an (.ref cda) ct cc) (body := L2.defBody sNev) (binds := [("self", .ref x), ("at", va), ("face", vf)]) hroom (X _ _ lk) rfl hlim (codeRec_of X hcd) rfl (BindsTo.of_eq (by rfl)) (show ∀ x ∈ (L2.defScope sNev).names, x.2 ≠ .cell from by decide +kernel) (by
    intro y hy
    rcases List.mem_cons.mp hy with rfl | hy
    · rfl
    rcases List.mem_cons.mp hy with rfl | hy
    · rfl
    rcases List.mem_cons.mp hy with rfl | hy
    · rfl
    cases hy) (fun h₁ hns hk₁ => ?_) rfl rfl rfl
  refine ks_wpAt_execs_cons (at_super T (X.keeps hk₁) (hg.keeps hk₁) (hb.keeps hk₁) hmb hns (hk₁ _ _ hx) lk rfl (by rfl) hcode hvs hfile hcell rfl rfl rfl rfl (h := fun h2 tk t1 kk2 e2 => ?_))
  refine wpAt_of_wpAny ?_
  have hLx : s.heap.objs.size ≠ x := Nat.ne_of_gt (Heap.lt_size hx)
  have X2 : K.In h2 := kept_but (X.keeps hk₁) hnx kk2
  obtain ⟨oL, es, ep, hL, rL⟩ := hns
  have hns2 : h2.Ns s.heap.objs.size _ := ⟨oL, es, ep, kk2 _ _ hLx hL, rL⟩
  have hlt2 := Heap.lt_size (kk2 _ _ hLx hL)
  refine wpAny_execs_cons (plainObj_wpAny_Assign_Attribute ?_)
  refine ldL (v := va) hns2 (by first | rfl | with_unfolding_all rfl | kernel_rfl) (ldL (v := .ref x) hns2 (by first | rfl | with_unfolding_all rfl | kernel_rfl) ?_)
  refine set_plain X2 (ox := excO C t1) (od := none) ⟨e2, rfl, rfl, trivial⟩ T.sa ?_
  refine exc_osa X2 e2 hclI (show refsVE (.ref C :: bm) = true from hbm) rfl no1 (fun h3 tk3 dx kk3 dn dne hx3 hn3 => ?_)
  show wpAny _ _ (execs _ _) _ _ _
  have X3 : K.In h3 := kept_but X2 hnx kk3
  have hns3 : h3.Ns s.heap.objs.size _ := ⟨oL, es, ep, kk3 _ _ hLx (kk2 _ _ hLx hL), rL⟩
  obtain ⟨oD, esD, epD, hoD, hdD, hcD⟩ := hn3.count (Within.cons "at" va Within.nil)
  refine wpAny_execs_cons (plainObj_wpAny_Assign_Attribute ?_)
  refine ldL (v := vf) hns3 (by first | rfl | with_unfolding_all rfl | kernel_rfl) (ldL (v := .ref x) hns3 (by first | rfl | with_unfolding_all rfl | kernel_rfl) ?_)
  refine set_plain X3 (ox := { cls := .ref C, dict := some dx, data := .fields #[.ref t1, .none, .none, .none, .bool false, .none] }) (od := some oD) ⟨hx3, rfl, rfl, hoD⟩ T.sa ?_
  refine PySem.OEX.osa_old X3 hx3 hn3 (Within.cons "at" va Within.nil) (by decide) hclI (show refsVE (.ref C :: bm) = true from hbm) rfl no2 (fun h4 tk4 kk4 hn4 => ?_)
  show wpAny _ _ (execs _ _) _ _ _
  have hxd : x ≠ dx := Ne.symm dne
  have big : s.heap.objs.size ≤ dx := Nat.le_of_lt (Nat.lt_of_lt_of_le hlt2 dn)
  refine wpAny_execs_nil (hq h4 tk4 dx _ ⟨fun b o hb e => kk4 b o (fun z => ?_) (kk3 b o hb (kk2 b o hb (hk₁ b o e))), kk4 _ _ hxd hx3, big, dne, hn4⟩)
  subst z
  exact absurd (Heap.lt_size e) (Nat.not_lt.mpr big)
end
end NE

set_option Elab.async false
set_option linter.all false
set_option maxRecDepth 100000
set_option maxHeartbeats 4000000
set_option autoImplicit false
namespace NE
open PySem PySem.W PySem.Calls PyProof.Rows PySem.HandSPX NA
section
variable {prog : Program} {w : World} {A : Around} {E : Value → Shared → Prop} {R : Result → Shared → Prop} {s : Shared} {K : Frag} {mg mb : Str → Option Value} {C fI : Addr}
theorem one_size (vs : List Value) (h : vs.length ≤ 2) : vs.length ≤ sizeLine := by
  rw [sizeLine_eq]
  omega
theorem e_made {x0 qual : Str} {st : Stmt} {us : List Value} {m : Str → Option Value} (T : ETxt prog K mg x0 qual st C fI) (hu : us.length ≤ 2) (X : K.In s.heap) (hlim : s.heap.NoLimit) (hg : s.heap.Ns mainGlobals mg) (hb : s.heap.Ns builtinsNs mb) (hroom : A.depth + 1 < recursionLimit)
    (hinit : ∀ (A : Around) (R : Result → Shared → Prop) (s : Shared) (x t0 : Addr), K.In s.heap → s.heap.NoLimit → s.heap.Ns mainGlobals mg → s.heap.Ns builtinsNs mb → s.heap.get? x = some (excO C t0) → K.lookup x = none → A.depth < recursionLimit →
      (∀ h' tk dx t1, InitEnd s.heap h' x C dx t1 m → R (.ok (.ret .none)) { s with heap := h', toks := tk }) → codeAny (model prog w) A (.call (.ref fI) ⟨.ref x :: us, []⟩) R s)
    (hq : ∀ h' tk e d, OwnMade s.heap h' e C d m → R (.ok (.ret (.ref e))) { s with heap := h', toks := tk }) :
    codeAny (model prog w) A (.call (.ref C) ⟨us, []⟩) R s := by
  obtain ⟨nm, q, N, bs, bm, sn, sub, ab, col, dd, k0, k1, k2, k3, k5, hC, hbm, _⟩ := T.cls
  obtain ⟨hp, g, dr, tk, os⟩ := s
  have k : ∀ b o, hp.get? b = some o → ((hp.push (kdv_tup us)).push (excO C hp.objs.size)).get? b = some o := fun b o e => Heap.get?_push_of_some _ (Heap.get?_push_of_some _ e)
  have hget : ((hp.push (kdv_tup us)).push (excO C hp.objs.size)).get? (hp.objs.size + 1) = some (excO C hp.objs.size) := by heap_get
  have hnx : K.lookup (hp.objs.size + 1) = none := by
    cases e : K.lookup (hp.objs.size + 1) with
    | none => rfl
    | some o =>
      have z : hp.get? (hp.objs.size + 1) = some o := X _ _ e
      exact absurd (Nat.lt_of_succ_lt (Heap.lt_size z)) (Nat.lt_irrefl _)
  refine call_own F.excBase_ValueError (fun X => refsVE_contains X bm hbm) (X _ _ hC) (looks_findIn X T.iC) (fun self => bind_fn X self T.tI) (one_size us hu) ?_
  refine hinit _ _ ⟨(hp.push (kdv_tup us)).push (excO C hp.objs.size), g, dr, tk, os⟩ (hp.objs.size + 1) hp.objs.size (X.keeps k) (hlim.keeps k) (hg.keeps k) (hb.keeps k) hget hnx ?_ fun h' tk' dx t1 ⟨k', hx, dn, dne, hns⟩ => ?_
  · show A.depth + 1 < recursionLimit
    exact hroom
  · have old : ∀ b o, hp.get? b = some o → h'.get? b = some o := fun b o e => k' b o (Nat.ne_of_lt (Nat.lt_succ_of_lt (Heap.lt_size e))) (k b o e)
    have z : hp.objs.size + 1 + 1 ≤ dx := by
      first
        | (simpa only [Heap.size_push] using dn)
        | exact dn
        | (have q := dn; rw [Heap.size_push, Heap.size_push] at q; exact q)
    exact ⟨rfl, hq h' tk' (hp.objs.size + 1) dx ⟨old, Nat.le_succ _, ⟨_, _, hx, rfl, rfl, rfl, rfl⟩, Nat.le_trans (Nat.le_trans (Nat.le_succ _) (Nat.le_succ _)) z, dne, hns⟩⟩
end
end NE
namespace NE
open PySem PySem.Spec PyProof.Rows L2 NA
section
variable {X : Cx} {C fI : Addr}
/-- C(e, ..): the exception's own dict is new, its fields are told by fs -/
def tMkE (C : Addr) (n : Nat) (fs : List V → List (Str × V)) (ta : TA) : L2.St → Hp → XK → Prop := fun σ H Q => ta σ H fun vs H1 => vs.length = n ∧ ∀ d, H1 d = none → Q (.ref C) (some d) (upd H1 d (.xd (fs vs)))
theorem pmk_e {x0 qual : Str} {st : Stmt} {e : Expr} {es : List Expr} {ta : TA} {p pos : Pos} {k n : Nat} {fs : List V → List (Str × V)} {mm : List Value → Str → Option Value} (T : ETxt X.prog X.K X.mg x0 qual st C fI) (hn2 : n ≤ 2) (hr : Room k X.A) (ha : PA X (e :: es) ta) (hg : Gl X x0)
    (hrel : ∀ vs us, Vals vs us → vs.length = n → ∀ f, RelO ((fs vs).lookup f) (mm us f))
    (hinit : ∀ (us : List Value) (mb : Str → Option Value), us.length = n → mb "super" = some (.type "super") → ∀ (A : Around) (R : Result → Shared → Prop) (s : Shared) (x t0 : Addr), X.K.In s.heap → s.heap.NoLimit → s.heap.Ns mainGlobals X.mg → s.heap.Ns builtinsNs mb → s.heap.get? x = some (HandSPX.excO C t0) → X.K.lookup x = none → A.depth < recursionLimit →
      (∀ h' tk dx t1, InitEnd s.heap h' x C dx t1 (mm us) → R (.ok (.ret .none)) { s with heap := h', toks := tk }) → codeAny (model X.prog X.w) A (.call (.ref fI) ⟨.ref x :: us, []⟩) R s)
    (hd : (x0 == ("__debug__" : Str)) = false)
    (he : starEach (e :: es) X.env = (false, eval e X.env) :: starEach es X.env := by rfl) (hpl : (backTo pos (starEach es X.env)).any (·.1) = false := by rfl) :
    PMk X (.Call (.Name x0 p) (e :: es) [] pos) (tMkE C n fs ta) := by
  intro pins s σ H Q I h
  refine wpAny_Call_Name_kw (ld_glob I hg T.gC ?_ hd)
  refine PySem.W.callWith_K (h₀ := X.base) I.ok.mod.kin T.kC (thn (ha.run pos pins s σ H _ I h) fun us s1 hh => ?_) he hpl
  obtain ⟨vs, H1, I1, r1, hn, q1⟩ := hh
  refine ⟨I1.kIn, ?_⟩
  have hlu : us.length = n := by rw [← r1.length]; exact hn
  show wpAny _ _ (call (.ref C) us) _ _ _
  have hlim := I1.nolimit
  have hgl := I1.mod.glob.keeps I1.bk
  obtain ⟨mb, hb1, hb2⟩ := I1.mod.blt
  have hbl := hb1.keeps I1.bk
  have hsup : mb "super" = some (.type "super") := (hb2 "super" (by decide)).trans (by decide +kernel)
  obtain ⟨hp, g, dr, tk, os⟩ := s1
  refine wpAny_call (e_made (mb := mb) (m := mm us) T (by omega) I1.kIn hlim hgl hbl (by have := hr.dp; omega) (hinit us mb hlu hsup) fun h' tk' e d M => ?_)
  show MkP X pins σ Q (.ref e) ⟨h', g, dr, tk', os⟩
  obtain ⟨oe, fv, hoe, hc, hd, hdat, h1⟩ := M.obj
  have hns := M.ns
  obtain ⟨G', g1, g2⟩ := restrict h' fun b => decide (b ≠ e)
  have gk : ∀ b, b ≠ e → G'.get? b = h'.get? b := fun b hb => g1 b (decide_eq_true hb)
  have ge : G'.get? e = none := g2 e (by simp)
  have old : ∀ b o, hp.get? b = some o → G'.get? b = some o := fun b o q => (gk b (Nat.ne_of_lt (Nat.lt_of_lt_of_le (Heap.lt_size q) M.new))).trans (M.keep b o q)
  have ob : ObjOk X.prog X.w (upd H1 d (.xd (fs vs))) G' d (.xd (fs vs)) :=
    ⟨_, hns.at (fun o q => (gk d M.dne).trans q), fun f => hrel vs us r1 hn f⟩
  have J : Inv X pins σ (upd H1 d (.xd (fs vs))) ⟨G', g, dr, tk', os⟩ := I1.laid (t' := tk') old M.dbig ob
  refine ⟨e, oe, fv, ⟨G', g, dr, tk', os⟩, _, .ref C, some d, rfl, J, fun b o q => ?_, ge, hoe, ⟨hc, hd⟩, hdat, h1, ?_, rfl, I1.bare, raises_own T.exC T.tyC, q1 d (I1.hok.fresh M.dbig)⟩
  · by_cases hb : b = e
    · have q' : G'.get? b = some o := q
      rw [hb, ge] at q'; cases q'
    · exact (gk b hb).symm.trans q
  · rw [upd_ne (Ne.symm M.dne)]
    exact I1.hok.fresh M.new
def fMis (vs : List V) : List (Str × V) := [("fault", vs.getD 0 .non)]
def fNev (vs : List V) : List (Str × V) := [("at", vs.getD 0 .non), ("face", vs.getD 1 .non)]
theorem pmk_mis {e : Expr} {ta : TA} {p pos : Pos} {k : Nat} (T : ETxt X.prog X.K X.mg "Mismatch" "Mismatch.__init__" sMis C fI) (no : PySem.W.findIn X.K (.ref C) "fault" = some none) (hr : Room k X.A) (ha : PA X [e] ta) (hg : Gl X "Mismatch" := by rfl)
    (he : starEach (e :: []) X.env = (false, eval e X.env) :: starEach [] X.env := by rfl) (hpl : (backTo pos (starEach [] X.env)).any (·.1) = false := by rfl) : PMk X (.Call (.Name "Mismatch" p) [e] [] pos) (tMkE C 1 fMis ta) := by
  refine pmk_e (mm := fun us => mFault (us.getD 0 .none)) T (by decide) hr ha hg (fun vs us r hn f => ?_) (fun us mb hu hs A R s x t0 X' hl hg hb hx hnx hroom hq => ?_) (by decide) he hpl
  · match vs, us, r, hn with
    | [v], [u], .cons rv .nil, _ =>
      show RelO (List.lookup f [("fault", v)]) (if f = "fault" then some u else none)
      by_cases hw : f = "fault"
      · subst hw
        rw [if_pos rfl, show List.lookup ("fault" : Str) [(("fault" : Str), v)] = some v by simp [List.lookup]]
        exact rv
      · rw [if_neg hw]
        have qw : (f == ("fault" : Str)) = false := by simpa using hw
        simp [List.lookup, qw, RelO]
  · match us, hu with
    | [u], _ => exact mis_init T no X' hl hg hb hs hx hnx hroom hq
theorem pmk_nev {e e2 : Expr} {ta : TA} {p pos : Pos} {k : Nat} (T : ETxt X.prog X.K X.mg "NotEven" "NotEven.__init__" sNev C fI) (no1 : PySem.W.findIn X.K (.ref C) "at" = some none) (no2 : PySem.W.findIn X.K (.ref C) "face" = some none) (hr : Room k X.A) (ha : PA X [e, e2] ta) (hg : Gl X "NotEven" := by rfl)
    (he : starEach (e :: [e2]) X.env = (false, eval e X.env) :: starEach [e2] X.env := by rfl) (hpl : (backTo pos (starEach [e2] X.env)).any (·.1) = false := by rfl) : PMk X (.Call (.Name "NotEven" p) [e, e2] [] pos) (tMkE C 2 fNev ta) := by
  refine pmk_e (mm := fun us => mNev (us.getD 0 .none) (us.getD 1 .none)) T (by decide) hr ha hg (fun vs us r hn f => ?_) (fun us mb hu hs A R s x t0 X' hl hg hb hx hnx hroom hq => ?_) (by decide) he hpl
  · match vs, us, r, hn with
    | [v, v2], [u, u2], .cons rv (.cons rv2 .nil), _ =>
      show RelO (List.lookup f [("at", v), ("face", v2)]) (if f = "face" then some u2 else if f = "at" then some u else none)
      by_cases hw : f = "at"
      · subst hw
        rw [if_neg (by decide), if_pos rfl, show List.lookup ("at" : Str) [(("at" : Str), v), (("face" : Str), v2)] = some v by simp [List.lookup]]
        exact rv
      · have qw : (f == ("at" : Str)) = false := by simpa using hw
        by_cases hw2 : f = "face"
        · subst hw2
          rw [if_pos rfl, show List.lookup ("face" : Str) [(("at" : Str), v), (("face" : Str), v2)] = some v2 by simp [List.lookup, qw]]
          exact rv2
        · rw [if_neg hw2, if_neg hw]
          have qw2 : (f == ("face" : Str)) = false := by simpa using hw2
          simp [List.lookup, qw, qw2, RelO]
  · match us, hu with
    | [u, u2], _ => exact nev_init T no1 no2 X' hl hg hb hs hx hnx hroom hq
end
end NE

set_option Elab.async false
set_option linter.all false
set_option maxRecDepth 100000
set_option maxHeartbeats 4000000
set_option autoImplicit false
/-! {k: v for ..} whose keys are tuples: what HandS.DictComp says of int and text keys, turned to tuple keys (its loop, compLoop_anyD, is the library's) -/
namespace NXD
open PySem PySem.Spec PyProof.Rows L2
theorem d_dictSetT {X : Cx} {pins : List (Addr × Obj)} {σ : L2.St} {H : Hp} {s : Shared} {E : Value → Shared → Prop} {D kb : Addr} {kvs : List (List Key × V)} {k : List Key} {v : V} {u r : Value} {Q : Unit → Shared → Prop} (hu : X.A.units + 1 < cLine) (I : Inv X pins σ H s) (hD : H D = some (.dT kvs)) (eb : H kb = some (.tup (k.map kV))) (l : kvs.length < sizeLine)
    (ry : RelV (V.ref kb) u) (rv : RelV v r) (h : ∀ s', Inv X pins σ (upd H D (.dT (putK kvs k v))) s' → Q () s') : wpAny (model X.prog X.w) X.A (dictSet D u r) Q E s := by
  cases (show u = Value.ref kb from ry)
  obtain ⟨z, hd, xs, rel, dd⟩ := dt_of I.hok hD
  have hz : xs.length ≤ sizeLine := by rw [← Paired.length rel]; exact z
  have hl : (putK kvs k v).length ≤ sizeLine := by have := length_putK kvs k v; omega
  refine wpAny_dictSet_heap (hsz := hz) (Nat.lt_of_succ_lt hu) (key_of I.hok eb) dd fun h' dd' hs => h _ ?_
  obtain ⟨q, es, ep, hq, h2, h3, h4, _, h5⟩ := dd'
  refine d_write I (by rw [hD]; exact True.intro) hs ⟨q, hq⟩ ⟨hl, hd, _, (rel.put k eb rv).keeps fun c ys ec => ?_, q, es, ep, hq, h2, h3, h4, h5⟩
  rw [upd_ne (ne_of ec hD (fun z => nomatch z))]
  exact ec
section
variable {X : Cx}
/-- {k: v for target in iter if ..}: D the new dict -/
def tDcT (wi : TI) (g : TG) (tt : TT) (tk tv : TE) (vs : List Nat) : TE := fun σ H Q => wi σ H fun J H1 => ∀ D, H1 D = none → ∃ W : Nat → Nat → Hp → Prop, (∃ m, W 0 m (upd H1 D (.dT []))) ∧ ∀ i m H, W i m H →
  (J.stop i H ∧ Q (.ref D) H) ∨ (J.go i H ∧ ∃ Nx : Hp → Prop, (∀ H', Nx H' → ∃ m', m' < m ∧ W (i + 1) m' H') ∧ ∀ x H', J.yld i H x H' → g x (wipe σ vs) H' fun σ2 H2 => wipe σ2 vs = wipe σ vs ∧ tt σ2 H2 fun b H3 =>
    if b = true then tk σ2 H3 fun y H4 => tv σ2 H4 fun z H5 => ∃ kvs k kb, y = .ref kb ∧ H5 D = some (.dT kvs) ∧ H5 kb = some (.tup (k.map kV)) ∧ kvs.length < sizeLine ∧ Nx (upd H5 D (.dT (putK kvs k z))) else Nx H3)
theorem dcT_core {pins : List (Addr × Obj)} {s : Shared} {σ : L2.St} {H : Hp} {Q : VK} {kx vx tg iter : Expr} {ifs : List Expr} {scope : Scope} {own : List (Str × Nat)} {pos pos' : Pos} {wi : TI} {g : TG} {tt : TT} {tk tv : TE} {use : Option (Value → Sem Unit)} {Qf : Value → Shared → Prop}
    (hu : X.A.units + 1 < cLine) (hc : X.calm = true) (hN : X.N.Nodup) (I : Inv X pins σ H s) (hi : PI X tg iter wi) (ok : BlkOk X.N X.env.scope scope own)
    (hg : ∀ (s : Shared) (H : Hp) (C : Addr) (cl : List (Str × Addr)) (fp : List Addr), PG (X.blk s H scope (compEnvC scope cl C X.env) fp) tg g) (ht : ∀ (s : Shared) (H : Hp) (C : Addr) (cl : List (Str × Addr)) (fp : List Addr), PTs (X.blk s H scope (compEnvC scope cl C X.env) fp) ifs tt)
    (hk : ∀ (s : Shared) (H : Hp) (C : Addr) (cl : List (Str × Addr)) (fp : List Addr), PE (X.blk s H scope (compEnvC scope cl C X.env) fp) kx tk)
    (he : ∀ (s : Shared) (H : Hp) (C : Addr) (cl : List (Str × Addr)) (fp : List Addr), PE (X.blk s H scope (compEnvC scope cl C X.env) fp) vx tv) (hs : ∀ x, foldedSetIterable iter X.env x = pure x)
    (h : tDcT wi g tt tk tv (own.map (·.2)) σ H Q)
    (hRR : ∀ D C s' m H', Inv X pins σ H' s' → Q (.ref D) H' → s'.heap.Ns C m → FpOk X pins H' C → compPost (model X.prog X.w) X.A X.xe use Qf (.ref D) C (.ok .next) s') :
    wpAny (model X.prog X.w) X.A (comprehension (.DictComp kx vx [⟨tg, iter, ifs, 0⟩] scope pos) scope X.env pos' newDict false (eval iter X.env) use) Qf X.xe s := by
  have hfree : ∀ y ∈ scope.names, y.2 = .free → ∃ c, X.env.cells.lookup y.1 = some c := fun y hy e => by
    rcases ok.free y hy e with k | k
    · exact I.ok.has _ (.inl k)
    · exact I.ok.has _ (.inr k)
  refine wpAny_comprehension_free (use := use) rfl hs (closure_ok hfree) ok.kind (fun y hy e => by rw [ok.uniq y hy, e])
    (thn (hi.run pins s σ H _ I h) fun xv s1 hx => thn hx fun itv s2 h2 => ?_)
  obtain ⟨it, fp, tn, J, H2, e, I2, T, st2, f2, q⟩ := h2
  subst e
  refine wpAny_newObj_type (newEnv_comp ?_)
  generalize hD : s2.heap.objs.size = D
  have hDn : H2 D = none := I2.hok.fresh (Nat.le_of_eq hD)
  obtain ⟨W, ⟨m0, w0⟩, turn⟩ := q D hDn
  -- the new list
  generalize hs3 : ({ s2 with heap := s2.heap.push { cls := .type "dict", data := .dict #[] } } : Shared) = s3
  have I3 : Inv X pins σ (upd H2 D (.dT [])) s3 := by
    rw [← hs3]
    refine I2.laid (t' := s2.toks) (fun b o e => Heap.get?_push_of_some _ e) (Nat.le_of_eq hD) ?_
    rw [← hD]
    exact dt_empty s2.heap I2.big
  have h3 : s3.heap = s2.heap.push { cls := .type "dict", data := .dict #[] } := by rw [← hs3]
  have sz : ∀ b ∈ fp, b < s2.heap.objs.size := fun b hb => by
    obtain ⟨o, e, _⟩ := T.obj _ _ st2 b hb
    exact Heap.lt_size e
  have f3 : ∀ b ∈ fp, FpOk X pins (upd H2 D (.dT [])) b ∧ b < s3.heap.objs.size := fun b hb => by
    have hlt := sz b hb
    refine ⟨⟨?_, (f2 b hb).2⟩, by rw [h3, Heap.size_push]; exact Nat.lt_succ_of_lt hlt⟩
    rw [upd_ne (by rw [← hD]; exact Nat.ne_of_lt hlt)]
    exact (f2 b hb).1
  have st3 : tn 0 s3.heap := T.keep _ _ _ st2 fun b _ o e => by rw [h3]; exact Heap.get?_push_of_some _ e
  have I4 := block_start I3 ok hN f3
  have pg := hg s3 (upd H2 D (.dT [])) s3.heap.objs.size (cellsFrom (s3.heap.objs.size + 1) scope.names (cloFrom X.env.cells scope.names [])) fp
  have pt := ht s3 (upd H2 D (.dT [])) s3.heap.objs.size (cellsFrom (s3.heap.objs.size + 1) scope.names (cloFrom X.env.cells scope.names [])) fp
  have pk := hk s3 (upd H2 D (.dT [])) s3.heap.objs.size (cellsFrom (s3.heap.objs.size + 1) scope.names (cloFrom X.env.cells scope.names [])) fp
  have pe := he s3 (upd H2 D (.dT [])) s3.heap.objs.size (cellsFrom (s3.heap.objs.size + 1) scope.names (cloFrom X.env.cells scope.names [])) fp
  show codeAny _ _ (.compStart (.DictComp kx vx [⟨tg, iter, ifs, 0⟩] scope pos) 0 (.ref it) (.ref D) (compEnvC scope (cellsFrom (s3.heap.objs.size + 1) scope.names (cloFrom X.env.cells scope.names [])) s3.heap.objs.size X.env)) (compPost (model X.prog X.w) X.A X.xe use Qf (.ref D) s3.heap.objs.size) { s3 with heap := pushCells (s3.heap.push { cls := .type "dict", data := .dict #[] }) scope.names }
  have nfp : ∀ b ∈ fp, (upd H2 D (.dT [])) b = none := fun b hb => (f3 b hb).1.1
  generalize hce : compEnvC scope (cellsFrom (s3.heap.objs.size + 1) scope.names (cloFrom X.env.cells scope.names [])) s3.heap.objs.size X.env = ce at I4 pg pt pk pe ⊢
  have cL : ce.locals = s3.heap.objs.size := by subst hce; rfl
  generalize hH3 : upd H2 D (.dT []) = H3 at I3 I4 pg pt pk pe w0 nfp f3
  generalize hs4 : ({ s3 with heap := pushCells (s3.heap.push { cls := .type "dict", data := .dict #[] }) scope.names } : Shared) = s4 at I4 ⊢
  have st4 : tn 0 s4.heap := T.keep _ _ _ st3 fun b _ o e => by rw [← hs4]; exact pushCells_keeps _ _ _ _ (Heap.get?_push_of_some _ e)
  have stat : ∀ {σ' : L2.St} {H' : Hp} {s' : Shared}, Inv (X.blk s3 H3 scope ce fp) [] σ' H' s' → (∀ b ∈ fp, H' b = none) → ∀ b ∈ fp, FpOk (X.blk s3 H3 scope ce fp) [] H' b := fun {σ' H' s'} I' hn b hb =>
    ⟨hn b hb, (I'.ok.exf b hb).1, I'.ok.exfs b hb, .inl hb, fun x c e => (I'.ok.exf b hb).2 x c e, fun p hp => absurd (show p ∈ ([] : List (Addr × Obj)) ++ [] from hp) (by simp)⟩
  have loop : codeAny (model X.prog X.w) X.A (.compLoop (.DictComp kx vx [⟨tg, iter, ifs, 0⟩] scope pos) 0 (.ref it) (.ref D) ce) (compPost (model X.prog X.w) X.A X.xe use Qf (.ref D) s3.heap.objs.size) s4 := by
    refine compLoop_anyD (fun n s' => ∃ i H', Inv (X.blk s3 H3 scope ce fp) [] (wipe σ (own.map (·.2))) H' s' ∧ tn i s'.heap ∧ (∀ b ∈ fp, H' b = none) ∧ W i n H') ?_ m0 ⟨0, H3, I4, st4, nfp, w0⟩
    rintro n s5 ⟨i, H5, I5, st5, n5, w5⟩
    rcases turn i n H5 w5 with ⟨stop, qq⟩ | ⟨go, Nx, hNx, step⟩
    · have td := T.done (X.blk s3 H3 scope ce fp) rfl rfl rfl hc i [] s5 _ H5 (fun _ _ => False) I5 (stat I5 n5) st5 stop
      refine thnF td fun r s6 ⟨hr, I6⟩ => ?_
      subst hr
      -- back in the def's context
      have I7 : Inv X pins σ H5 s6 := I3.call' (ch := fp) I6.os I6.base I6.hok I6.bare fun b hb => ⟨(f3 b hb).1.2.2.2.1, (f3 b hb).1.2.1, (f3 b hb).1.2.2.2.2.1, (f3 b hb).1.2.2.2.2.2⟩
      have nC : H5 s3.heap.objs.size = none := by
        have z : H5 ce.locals = none := I6.free
        rw [cL] at z
        exact z
      obtain ⟨m, hn, _⟩ := I6.loc
      have hn : s6.heap.Ns ce.locals m := hn
      rw [cL] at hn
      exact hRR D s3.heap.objs.size s6 m H5 I7 qq hn (I3.fpOk (Nat.le_refl _) nC)
    · have ti := T.item (X.blk s3 H3 scope ce fp) rfl rfl rfl hc i [] s5 _ H5 (fun _ _ => False) I5 (stat I5 n5) st5 go
      refine thnF ti fun r s6 ⟨u, hr, h6⟩ => ?_
      subst hr
      refine thnF h6 fun _ s7 ⟨x, H7, I7, r7, y7, st7, n7⟩ => ?_
      have I7' := I7.pinned (stat I7 n7) (T.obj _ _ st7)
      refine thnF (pg.run _ s7 _ H7 x u _ I7' r7 (step x H7 y7)) fun _ s8 ⟨σ8, H8, I8, hw8, q8⟩ => ?_
      refine thnF (pt.run _ s8 σ8 H8 _ I8 q8) fun b s9 ⟨H9, I9, q9⟩ => ?_
      -- the turn's end
      have fin : ∀ {s' : Shared} {H' : Hp}, Inv (X.blk s3 H3 scope ce fp) ([] ++ pinsAt fp s7.heap) σ8 H' s' → Nx H' → ∃ m, m < n ∧ ∃ i H', Inv (X.blk s3 H3 scope ce fp) [] (wipe σ (own.map (·.2))) H' s' ∧ tn i s'.heap ∧ (∀ b ∈ fp, H' b = none) ∧ W i m H' := fun {s' H'} I' nx => by
        obtain ⟨m', hm, w'⟩ := hNx H' nx
        have pin' : ∀ b ∈ fp, ∀ o, s7.heap.get? b = some o → s'.heap.get? b = some o ∧ H' b = none := fun b hb o e =>
          let z := I'.pin (b, o) (List.mem_append_right _ (List.mem_append_right _ (mem_pinsAt hb e)))
          ⟨z.1, z.2.1⟩
        have hl : (wipe σ (own.map (·.2))).length = σ8.length := by rw [← hw8, wipe_length]
        refine ⟨m', hm, i + 1, H', (I'.unpinned (pins := [])).weak hl (fun j v e => ?_), T.keep _ _ _ st7 fun b hb o e => (pin' b hb o e).1, fun b hb => ?_, w'⟩
        · rw [← hw8] at e
          exact (wipe_some e).1
        · obtain ⟨o, e, _⟩ := T.obj _ _ st7 b hb
          exact (pin' b hb o e).2
      cases b with
      | false =>
        simp only [Bool.false_eq_true, if_false] at q9 ⊢
        exact fin I9 q9
      | true =>
        simp only [if_true] at q9 ⊢
        refine thnF (pk.run _ s9 σ8 H9 _ I9 q9) fun z s10 ⟨yk, H10, I10, r10, q10⟩ => ?_
        refine thnF (pe.run _ s10 σ8 H10 _ I10 q10) fun z2 s11 ⟨yv, H11, I11, r11, kvs, k, kb, ek, hD11, hb11, hz11, nx⟩ => ?_
        subst ek
        exact d_dictSetT (X := X.blk s3 H3 scope ce fp) (kb := kb) hu I11 hD11 hb11 hz11 r10 r11 fun s12 I12 => fin I12 nx
  exact codeAny_compStart_dict loop (T.self X.A 0 _ _ _ st4 loop)
theorem ps_setDcT {i : Nat} {y : Str} {py : Pos} {kx vx tg iter : Expr} {ifs : List Expr} {scope : Scope} {own : List (Str × Nat)} {pos spos : Pos} {wi : TI} {g : TG} {tt : TT} {tk tv : TE} (hu : X.A.units + 1 < cLine) (hc : X.calm = true) (hN : X.N.Nodup) (hy : X.N[i]? = some y) (hyl : X.env.scope.names.lookup y = some .local)
    (hsw : swapsWith (.DictComp kx vx [⟨tg, iter, ifs, 0⟩] scope pos) (some (.Name y py)) spos.line X.env = pure true) (hi : PI X tg iter wi) (ok : BlkOk X.N X.env.scope scope own)
    (hg : ∀ (s : Shared) (H : Hp) (C : Addr) (cl : List (Str × Addr)) (fp : List Addr), PG (X.blk s H scope (compEnvC scope cl C X.env) fp) tg g) (ht : ∀ (s : Shared) (H : Hp) (C : Addr) (cl : List (Str × Addr)) (fp : List Addr), PTs (X.blk s H scope (compEnvC scope cl C X.env) fp) ifs tt)
    (hk : ∀ (s : Shared) (H : Hp) (C : Addr) (cl : List (Str × Addr)) (fp : List Addr), PE (X.blk s H scope (compEnvC scope cl C X.env) fp) kx tk)
    (he : ∀ (s : Shared) (H : Hp) (C : Addr) (cl : List (Str × Addr)) (fp : List Addr), PE (X.blk s H scope (compEnvC scope cl C X.env) fp) vx tv) (hs : ∀ x, foldedSetIterable iter X.env x = pure x := by intro _; rfl) :
    PS X (.Assign [.Name y py] (.DictComp kx vx [⟨tg, iter, ifs, 0⟩] scope pos) spos) (tAsg (tDcT wi g tt tk tv (own.map (·.2))) (gName i)) := by
  refine ⟨fun pins s σ H D I h => ?_⟩
  rw [exec_Assign_Name_used _ _ _ _ hsw]
  refine wpAny_bind (wpAny_standAt (wpAny_bind ?_))
  show wpAny _ X.A (do let _ ← comprehension (.DictComp kx vx [⟨tg, iter, ifs, 0⟩] scope pos) scope X.env (firstIterPos [⟨tg, iter, ifs, 0⟩] pos) newDict false (eval iter X.env) (some (assign (.Name y py) X.env))) _ _ s
  have h : tDcT wi g tt tk tv (own.map (·.2)) σ H (fun x H1 => gName i x σ H1 D.nx) := h
  refine wpAny_bind (thn (dcT_core (Qf := fun _ s' => SP X pins D .next s') hu hc hN I hi ok hg ht hk he hs h fun L C s' m H' I' q hn f => ?_) fun _ s' hq => wpAny_pure (wpAny_pure hq))
  show wpAny _ _ (assign (.Name y py) X.env (.ref L)) _ _ _
  refine wpAny_assign_Name (store_ok2 (v := V.ref L) I' hN hy (.inl hyl) rfl (fun s2 I2 ⟨a, sb, ha⟩ => ?_) (.inr hyl))
  obtain ⟨f0, f1, f2, f3, f4, f5⟩ := f
  have haC : C ≠ a := by
    rcases ha with z | z
    · rw [z]; exact f1
    · exact fun e => f4 y a z e.symm
  refine ⟨m, hn.sameBut sb haC, fun h3 sb3 => ?_⟩
  exact ⟨_, H', I2.turned (t' := s2.toks) (fun b o hb e => (sb3.2 b hb).trans e) f0 f1 f3 f4 f5, q⟩
theorem sw_trueD {kx vx : Expr} {gs : List Comprehension} {scope : Scope} {pos py : Pos} {y : Str} {l : Nat} {env : Env} (hk : env.scope.kind = .function) (hy : env.scope.names.lookup y = some .local) (hl : (py.line == pos.line) = true)
    (ha : (scope.names.any fun (n, k) => n == y && (k == .local || k == .cell)) = false) : swapsWith (.DictComp kx vx gs scope pos) (some (.Name y py)) l env = pure true := by
  have ky : env.kindOf y = some .local := hy
  have hb : env.blockKind = .function := by unfold Env.blockKind; rw [hk]; rfl
  unfold swapsWith
  simp only [hb, ky, ha, Expr.pos, hl]
  rfl
end
end NXD

set_option Elab.async false
set_option linter.all false
set_option maxRecDepth 100000
set_option maxHeartbeats 4000000
set_option autoImplicit false
namespace NA
open PySem PySem.Spec PyProof.Rows L2
/-! ### defs that raise -/
inductive XD where
  | mis (f : Str) | nev (a : Int) (r : List Int)
section
variable {K : PySem.W.Frag} {C Cm Cn : Addr} {S S' H H' S0 H0 : Hp} {σ : L2.St} {Γ Γ' : List Sl} {E : AE} {te : TE} {d : D} {ds es : List D} {ta : TA}
/-- the exception x stands: its class, its own dict -/
inductive XIs (K : PySem.W.Frag) (C Cm Cn : Addr) (S' H' : Hp) : Value → Addr → XD → Prop
  | mis {dd : Addr} (f : Str) : H' dd = some (.xd [("fault", .str f)]) → XIs K C Cm Cn S' H' (.ref Cm) dd (.mis f)
  | nev {dd : Addr} {v : V} (a : Int) (r : List Int) : H' dd = some (.xd [("at", .int a), ("face", v)]) → Is K C S' v (room r) → XIs K C Cm Cn S' H' (.ref Cn) dd (.nev a r)
def XOk (K : PySem.W.Frag) (C Cm Cn : Addr) (S0 H0 : Hp) (X : XK) (x : XD) : Prop := ∀ S' H' cls dd, Grow S0 H0 S' H' → XIs K C Cm Cn S' H' cls dd x → X cls (some dd) H'
theorem XOk.grow {X : XK} {x : XD} (h : XOk K C Cm Cn S0 H0 X x) (g : Grow S0 H0 S H) : XOk K C Cm Cn S H X x := fun S' H' cls dd g' i => h S' H' cls dd (g.trans g') i
def spX (K : PySem.W.Frag) (C Cm Cn : Addr) (R : List D → D → Prop) (RX : List D → XD → Prop) : Sp := fun vs H Q X => ∃ S ds, Same S H ∧ IsL K C S vs ds ∧
  ((∃ d, R ds d ∧ ∀ v S' H', Grow S H S' H' → Is K C S' v d → Q v H') ∨ ∃ x, RX ds x ∧ XOk K C Cm Cn S H X x)
theorem ev_callX {R : List D → D → Prop} {RX : List D → XD → Prop} {X : XK} {dvs : List V} (ha : EvA K C ta Γ ds) (hd : ∀ S, IsL K C S dvs es) (h : R (ds ++ es) d) : EvE K C (tCall (spX K C Cm Cn R RX) dvs X ta) Γ d := fun σ S H E Q q =>
  ha σ S H E _ fun vs S1 H1 g1 i1 => ⟨S1, ds ++ es, g1.le, i1.append (hd S1), .inl ⟨d, h, fun v S2 H2 g2 i2 => q v S2 H2 (g1.trans g2) i2⟩⟩
theorem ev_callX0 {R : List D → D → Prop} {RX : List D → XD → Prop} {X : XK} (ha : EvA K C ta Γ ds) (h : R ds d) : EvE K C (tCall (spX K C Cm Cn R RX) [] X ta) Γ d := ev_callX ha (fun _ => .nil) (by rw [List.append_nil]; exact h)
/-- an expression that raises -/
def RaE (K : PySem.W.Frag) (C Cm Cn : Addr) (X : XK) (te : TE) (Γ : List Sl) (x : XD) : Prop := ∀ σ S H, EnvOk K C S H σ Γ → XOk K C Cm Cn S H X x → ∀ Q, te σ H Q
theorem ra_call {R : List D → D → Prop} {RX : List D → XD → Prop} {X : XK} {x : XD} (ha : EvA K C ta Γ ds) (h : RX ds x) : RaE K C Cm Cn X (tCall (spX K C Cm Cn R RX) [] X ta) Γ x := fun σ S H E hx Q =>
  ha σ S H E _ fun vs S1 H1 g1 i1 => ⟨S1, ds, g1.le, by rw [List.append_nil]; exact i1, .inr ⟨x, h, hx.grow g1⟩⟩
theorem sv_asgRa {X : XK} {x : XD} {g : TG} (h : RaE K C Cm Cn X te Γ x) (hx : XOk K C Cm Cn S0 H0 X x) : SvE K C S0 H0 (tAsg te g) Γ E := fun Dd σ S H e kk => h σ S H e.e (hx.grow e.g) _
theorem sv_mis {X : XK} {f : Str} (ha : EvA K C ta Γ [.str f]) (hx : XOk K C Cm Cn S0 H0 X (.mis f)) : SvE K C S0 H0 (fun _ σ H => NE.tMkE Cm 1 NE.fMis ta σ H fun cls d H' => X cls d H') Γ E := fun Dd σ S H e kk =>
  ha σ S H e.e _ fun vs S1 H1 g1 i1 => ⟨i1.length, fun dd hd => by
    refine hx S1 _ _ dd ((e.g.trans g1).trans (Grow.newM g1.le hd)) (.mis f ?_)
    cases i1 with
    | cons a t =>
      cases t
      rw [a.str_inv, upd_same]; rfl⟩
theorem sv_nev {X : XK} {a : Int} {r : List Int} (ha : EvA K C ta Γ [.int a, room r]) (hx : XOk K C Cm Cn S0 H0 X (.nev a r)) : SvE K C S0 H0 (fun _ σ H => NE.tMkE Cn 2 NE.fNev ta σ H fun cls d H' => X cls d H') Γ E := fun Dd σ S H e kk =>
  ha σ S H e.e _ fun vs S1 H1 g1 i1 => ⟨i1.length, fun dd hd => by
    cases i1 with
    | cons b t =>
      cases t with
      | cons c t =>
        cases t
        cases b.int_inv
        exact hx S1 _ _ dd ((e.g.trans g1).trans (Grow.newM g1.le hd)) (.nev a r upd_same c)⟩
theorem fnX_ev {P : Program} {w : World} {mg : Str → Option Value} {base : Heap} {x qual : Str} {st : Stmt} {f : Addr} {fd : FuncData} {N ps : List Str} {k : Nat} {R : List D → D → Prop} {RX : List D → XD → Prop} (F : Fun K x qual st f fd) (S : FnScope N ps (defScope st)) (len : ∀ ds d, R ds d → ds.length = ps.length) (lenX : ∀ ds x, RX ds x → ds.length = ps.length)
    (body : ∀ ds, (∃ d, R ds d) ∨ (∃ x, RX ds x) → ∀ (cdv : Value) (A : Around) (outer : List PySem.Env) (s : Shared) (H : Hp) (X : XK), Room k (A.deeper (envOfC qual (defScope st) s.heap.objs.size f cdv)) →
      ∃ t, PSs (cxOf (L2.CX P w) P w K mg base N qual (defScope st) f cdv A outer s H X) (defBody st) t ∧ (∀ d, R ds d → ∀ S0 H0, SvE K C S0 H0 t (Γ0 N ds) { rt := fun d' => d' = d, nx := fun _ => d = .non }) ∧ ∀ x, RX ds x → ∀ S0 H0, XOk K C Cm Cn S0 H0 X x → SvE K C S0 H0 t (Γ0 N ds) {}) : FnOk P w K mg base (L2.CX P w) (k + 1) f fd ps (spX K C Cm Cn R RX) := by
  refine F.okX S (fun vs H Q E h => ?_) (fun cdv A outer s H vs Q E hr h => ?_)
  · obtain ⟨S, ds, e, l, h⟩ := h
    rw [l.length]
    rcases h with ⟨d, r, _⟩ | ⟨x, r, _⟩
    · exact len ds d r
    · exact lenX ds x r
  · obtain ⟨S, ds, e, l, h⟩ := h
    rcases h with ⟨d, r, q⟩ | ⟨x, r, q⟩
    · obtain ⟨t, h1, h2, _⟩ := body ds (.inl ⟨d, r⟩) cdv A outer s H E hr
      refine ⟨t, h1, h2 d r S H _ _ S H (Env0 e l) ⟨fun Γ σ S' H' e' _ z => ?_, fun d' v S' H' g i z => ?_, fun _ _ _ _ _ _ z => z.elim, fun _ _ _ _ _ _ z => z.elim⟩⟩
      · have z' : d = .non := z
        subst z'; exact q _ S' H' e'.g .non
      · have z' : d' = d := z
        subst z'; exact q v S' H' g i
    · obtain ⟨t, h1, _, h2⟩ := body ds (.inr ⟨x, r⟩) cdv A outer s H E hr
      exact ⟨t, h1, h2 x r S H q _ _ S H (Env0 e l) ⟨fun _ _ _ _ _ _ z => z.elim, fun _ _ _ _ _ _ z => z.elim, fun _ _ _ _ _ _ z => z.elim, fun _ _ _ _ _ _ z => z.elim⟩⟩
/-- .. of a def with defaults -/
theorem fnD_ev {P : Program} {w : World} {mg : Str → Option Value} {base : Heap} {x qual : Str} {st : Stmt} {f : Addr} {fd : FuncData} {N ps : List Str} {k : Nat} {R : List D → D → Prop} {RX : List D → XD → Prop} {dvs : List V} (F : FunD K x qual (defArgs st) (defBody st) (defScope st) dvs [] f fd) (S : FnScope N ps (defScope st)) (len : ∀ ds d, R ds d → ds.length = ps.length) (lenX : ∀ ds x, RX ds x → ds.length = ps.length)
    (body : ∀ ds, (∃ d, R ds d) ∨ (∃ x, RX ds x) → ∀ (cdv : Value) (A : Around) (outer : List PySem.Env) (s : Shared) (H : Hp) (X : XK), Room k (A.deeper (envOfC qual (defScope st) s.heap.objs.size f cdv)) →
      ∃ t, PSs (cxOf (L2.CX P w) P w K mg base N qual (defScope st) f cdv A outer s H X) (defBody st) t ∧ (∀ d, R ds d → ∀ S0 H0, SvE K C S0 H0 t (Γ0 N ds) { rt := fun d' => d' = d, nx := fun _ => d = .non }) ∧ ∀ x, RX ds x → ∀ S0 H0, XOk K C Cm Cn S0 H0 X x → SvE K C S0 H0 t (Γ0 N ds) {}) : FnOk P w K mg base (L2.CX P w) (k + 1) f fd ps (spX K C Cm Cn R RX) := by
  refine F.ok S (fun vs H Q E h => ?_) (fun cdv A outer s H vs Q E hr h => ?_)
  · obtain ⟨S, ds, e, l, h⟩ := h
    rw [l.length]
    rcases h with ⟨d, r, _⟩ | ⟨x, r, _⟩
    · exact len ds d r
    · exact lenX ds x r
  · obtain ⟨S, ds, e, l, h⟩ := h
    rcases h with ⟨d, r, q⟩ | ⟨x, r, q⟩
    · obtain ⟨t, h1, h2, _⟩ := body ds (.inl ⟨d, r⟩) cdv A outer s H E hr
      refine ⟨t, h1, h2 d r S H _ _ S H (Env0 e l) ⟨fun Γ σ S' H' e' _ z => ?_, fun d' v S' H' g i z => ?_, fun _ _ _ _ _ _ z => z.elim, fun _ _ _ _ _ _ z => z.elim⟩⟩
      · have z' : d = .non := z
        subst z'; exact q _ S' H' e'.g .non
      · have z' : d' = d := z
        subst z'; exact q v S' H' g i
    · obtain ⟨t, h1, _, h2⟩ := body ds (.inr ⟨x, r⟩) cdv A outer s H E hr
      exact ⟨t, h1, h2 x r S H q _ _ S H (Env0 e l) ⟨fun _ _ _ _ _ _ z => z.elim, fun _ _ _ _ _ _ z => z.elim, fun _ _ _ _ _ _ z => z.elim, fun _ _ _ _ _ _ z => z.elim⟩⟩
/-! ### {k: True for k in t} -/
theorem kvGet_put (kvs : List (List Int × D)) (f g : List Int) (z : D) : kvGet (kvPut kvs f z) g = if g = f then some z else kvGet kvs g := by
  unfold kvPut
  split
  · rename_i ha
    induction kvs with
    | nil => simp at ha
    | cons kv r ih =>
      unfold kvGet at ih ⊢
      rw [List.map_cons]
      by_cases h : kv.1 = f
      · subst h
        rw [if_pos rfl]
        by_cases hg : g = kv.1
        · subst hg; simp
        · have hg' : ¬ kv.1 = g := fun z => hg z.symm
          rw [if_neg hg, List.find?_cons_of_neg (by simpa using hg'), List.find?_cons_of_neg (by simpa using hg')]
          clear ih ha
          induction r with
          | nil => rfl
          | cons kw r ih2 =>
            rw [List.map_cons]
            by_cases h2 : kw.1 = kv.1
            · rw [if_pos h2, List.find?_cons_of_neg (by simpa [h2] using hg'), List.find?_cons_of_neg (by simpa [h2] using hg')]; exact ih2
            · rw [if_neg h2]
              by_cases h3 : kw.1 = g
              · rw [List.find?_cons_of_pos (by simp [h3]), List.find?_cons_of_pos (by simp [h3])]
              · rw [List.find?_cons_of_neg (by simpa using h3), List.find?_cons_of_neg (by simpa using h3)]; exact ih2
      · rw [if_neg h]
        have ha' : (r.any fun kv => decide (kv.1 = f)) = true := by simpa [h] using ha
        by_cases hg : kv.1 = g
        · have : ¬ g = f := fun z => h (hg.trans z)
          rw [if_neg this, List.find?_cons_of_pos (by simp [hg]), List.find?_cons_of_pos (by simp [hg])]
        · rw [List.find?_cons_of_neg (by simpa using hg), List.find?_cons_of_neg (by simpa using hg)]
          exact ih ha'
  · rename_i ha
    unfold kvGet
    rw [List.find?_append]
    by_cases hg : g = f
    · subst hg
      rw [if_pos rfl, List.find?_eq_none.mpr]
      · simp
      · intro kv hkv
        rw [Bool.not_eq_true, List.any_eq_false] at ha
        exact ha kv hkv
    · rw [if_neg hg]
      have : ¬ f = g := fun z => hg z.symm
      cases hx : kvs.find? fun kv => decide (kv.1 = g) with
      | none => simp [this]
      | some y => simp
def Has (kvs : List (List Int × D)) (rs : List (List Int)) : Prop := (∀ q, (kvGet kvs q).isSome = decide (q ∈ rs)) ∧ kvs.length ≤ rs.length
theorem Has.put {kvs : List (List Int × D)} {rs : List (List Int)} (h : Has kvs rs) (r : List Int) (d : D) : Has (kvPut kvs r d) (rs ++ [r]) := by
  refine ⟨fun q => ?_, ?_⟩
  · rw [kvGet_put]
    by_cases hq : q = r
    · subst hq; simp
    · rw [if_neg hq, h.1 q]; simp [hq]
  · have := kvPut_length kvs r d
    have := h.2
    simp; omega
theorem sv_dct {i j : Nat} {rs : List (List Int)} (h : EvE K C te Γ (trooms rs)) (hij : j ≠ i) (k : ∀ kvs, Has kvs rs → E.nx (Γ.set i (.md kvs))) (hj : (wipeG Γ [j]).length > j) : SvE K C S0 H0 (tAsg (NXD.tDcT (iTup K te) (gName j) tYes (tVar j) (tC (.bl true)) [j]) (gName i)) Γ E := fun Dd σ S H e kk =>
  h σ S H e.e _ fun v S1 H1 g1 i1 => by
    obtain ⟨p, ws, rfl, hp, l, n⟩ := i1.tup_inv
    have e1 := e.grow g1
    have hjl : j < σ.length := by
      rw [e.e.len]
      unfold wipeG wipeG at hj
      simpa using hj
    refine ⟨p, rfl, ⟨ws, .of (g1.le _ _ hp)⟩, fun Dl hD => ?_⟩
    have hDS := same_free g1.le hD
    refine ⟨fun i m H' => m = ws.length - i ∧ i ≤ ws.length ∧ ∃ S' ks kvs, Grow S1 H1 S' H' ∧ S' Dl = none ∧ H' Dl = some (.dT ks) ∧ KvOk K C S' ks kvs ∧ Has kvs (rs.take i), ⟨ws.length, by simp, Nat.zero_le _, S1, [], [], Grow.newM g1.le hD, hDS, upd_same, .nil, fun _ => rfl, Nat.le_refl _⟩, ?_⟩
    rintro i' m H' ⟨rfl, hi', S', ks, kvs, g2, s2, h2, hk, hh⟩
    have hlen : ws.length = rs.length := by rw [l.length, List.length_map]
    have hp' : SqT K H' p ws := .of (g2.le _ _ (g2.hs _ _ hp))
    by_cases hlt : i' < ws.length
    · refine .inr ⟨⟨ws, ws[i'], hp', by simp [hlt]⟩, fun H' => ∃ S' ks kvs, Grow S1 H1 S' H' ∧ S' Dl = none ∧ H' Dl = some (.dT ks) ∧ KvOk K C S' ks kvs ∧ Has kvs (rs.take (i' + 1)), fun H' a' => ⟨ws.length - (i' + 1), by omega, rfl, hlt, a'⟩, fun x H'' yy => ?_⟩
      obtain ⟨rfl, y⟩ := yy
      have hx := y ws hp'
      obtain ⟨d, hd, iv⟩ := l.get hx
      rw [List.getElem?_map] at hd
      cases hr : rs[i']? with
      | none => rw [hr] at hd; cases hd
      | some r =>
        rw [hr] at hd; cases hd
        have iv2 := iv.mono g2.hs
        obtain ⟨b, rfl, hb, _⟩ := iv2.room_inv
        have hget : ((L2.wipe σ [j]).set j (some (V.ref b)))[j]? = some (some (.ref b)) := by
          rw [List.getElem?_set, if_pos rfl, if_pos (by rw [wipe_length]; exact hjl)]
        refine ⟨?_, ?_⟩
        · refine wipe_same (is := [j]) (by simp [wipe_length]) (fun k hk => by rw [List.getElem?_set, if_neg (fun z => hk (by simp [z]))]) (fun k h => h)
        dsimp only [tYes]
        rw [if_pos rfl]
        refine ⟨.ref b, hget, ks, r.map Sum.inl, b, rfl, h2, by rw [kV_inl]; exact g2.le _ _ hb, ?_, S', _, kvPut kvs r (.bl true), ⟨g2.hs, same_updM g2.le s2, same_updM g2.hh hD, g2.fr⟩, s2, upd_same, hk.put (.bl true) r, ?_⟩
        · rw [hk.length]
          have := hh.2
          rw [List.length_take] at this
          rw [List.length_map] at n
          exact Nat.lt_of_lt_of_le (show kvs.length < 1001 by omega) (by decide)
        · rw [take_snoc hr]; exact hh.put r _
    · have ej : i' = ws.length := by omega
      subst ej
      rw [List.take_of_length_le (by omega)] at hh
      refine .inl ⟨⟨ws, hp', Nat.le_refl _⟩, ?_⟩
      have e2 := e1.grow g2
      have away : ∀ (j : Nat) (t : Sl), Γ[j]? = some t → t.mut = true → σ[j]? ≠ some (some (.ref Dl)) := fun j t ej m z => by
        obtain ⟨o, e2, q⟩ := e1.e.ok j t ej
        obtain ⟨p', u', e3, _, e4, _⟩ := q.mutAt m
        rw [e2, e3] at z; cases z
        rw [hD] at e4; cases e4
      have hn : kvs.length ≤ 1000 := by
        have := hh.2
        rw [List.length_map] at n
        omega
      refine kk.nx _ _ S' H' ⟨e2.g, e2.e.setFresh away (slmd s2 h2 hk hn), fun j t q e m f => ?_⟩ (g1.hs.trans g2.hs) (k kvs hh)
      rw [List.getElem?_set] at e f
      by_cases hij : i = j
      · subst hij
        by_cases hl : i < σ.length
        · rw [if_pos rfl, if_pos hl] at f; cases f
          exact same_free e1.g.hh hD
        · rw [if_pos rfl, if_neg hl] at f; cases f
      · rw [if_neg hij] at e f
        exact e1.m j t q e m f
theorem ra_dct {X : XK} {x : XD} {g : TG} {tt : TT} {tk tv : TE} {vs : List Nat} (h : RaE K C Cm Cn X te Γ x) : RaE K C Cm Cn X (NXD.tDcT (iTup K te) g tt tk tv vs) Γ x := fun σ S H e hx Q => h σ S H e hx _
end
end NA

set_option Elab.async false
set_option linter.all false
set_option maxRecDepth 100000
set_option maxHeartbeats 4000000
set_option autoImplicit false
namespace NA
open PySem PySem.Spec PyProof.Rows L2
def up (p : Int) (r : List Int) : List Int := isort (r ++ [p])
theorem wo_eq : ∀ n : Nat, n < 7 → ∀ s : Nat, s < 8 → ∀ p : Nat, p < 7 → woR n s (p : Int) = (allR n s).filter (fun r => !decide ((p : Int) ∈ r)) := by decide +kernel
theorem up_mem : ∀ n : Nat, n < 7 → ∀ s : Nat, s < 7 → ∀ p : Nat, p < n → (allR n s).all (fun r => decide ((p : Int) ∈ r) || (allR n (s + 1)).contains (up (p : Int) r)) = true := by decide +kernel
end NA

set_option Elab.async false
set_option linter.all false
set_option maxRecDepth 100000
set_option maxHeartbeats 4000000
set_option autoImplicit false
namespace NA
open PySem PySem.Spec PyProof.Rows L2
abbrev sFilling : Stmt := topS 17
abbrev nFilling : List Str := ["book", "apex", "odd", "room"]
theorem scFilling : FnScope nFilling ["book", "apex"] (defScope sFilling) := ⟨rfl, rfl, rfl, by decide +kernel, rfl, by decide +kernel, by decide +kernel⟩
abbrev sFilled : Stmt := topS 18
abbrev nFilled : List Str := ["places", "size", "apex", "rooms", "base", "counts", "room", "face"]
theorem scFilled : FnScope nFilled ["places", "size", "apex", "rooms"] (defScope sFilled) := ⟨rfl, rfl, rfl, by decide +kernel, rfl, by decide +kernel, by decide +kernel⟩
abbrev sBookNumber : Stmt := topS 20
abbrev nBookNumber : List Str := ["book", "apex", "known", "number", "weight", "room"]
theorem scBookNumber : FnScope nBookNumber ["book", "apex"] (defScope sBookNumber) := ⟨rfl, rfl, rfl, by decide +kernel, rfl, by decide +kernel, by decide +kernel⟩
abbrev sNumberedBook : Stmt := topS 22
abbrev nNumberedBook : List Str := ["places", "size", "number", "apex", "many", "rooms", "left", "room"]
theorem scNumberedBook : FnScope nNumberedBook ["places", "size", "number", "apex"] (defScope sNumberedBook) := ⟨rfl, rfl, rfl, by decide +kernel, rfl, by decide +kernel, by decide +kernel⟩
def dueR (p : Nat) (rs : List (List Int)) : List (List Int) := rs.filter fun r => !decide ((p : Int) ∈ r)
def coneF (n s p : Nat) (due : List (List Int)) : List (List Int) := sel n s (oddP (allF (due.map (up (p : Int)))))
def numL : List (List Int) → (List Int → Bool) → Nat
  | [], _ => 0
  | r :: l, q => (if q r then 1 else 0) + 2 * numL l q
def pick : List (List Int) → Nat → List (List Int)
  | [], _ => []
  | r :: l, m => (if m % 2 = 1 then [r] else []) ++ pick l (m / 2)
theorem numL_snoc (q : List Int → Bool) (r : List Int) : ∀ l, numL (l ++ [r]) q = numL l q + (if q r then 2 ^ l.length else 0)
  | [] => by simp only [List.nil_append, numL]; cases q r <;> simp
  | a :: l => by
    simp only [List.cons_append, numL, List.length_cons]
    rw [numL_snoc q r l, Nat.pow_succ]
    cases q r <;> cases q a <;> simp <;> omega
theorem pick_sub : ∀ (l : List (List Int)) (m : Nat), (pick l m).Sublist l
  | [], _ => List.Sublist.refl _
  | r :: l, m => by
    simp only [pick]
    split
    · exact (pick_sub l (m / 2)).cons_cons r
    · exact (pick_sub l (m / 2)).cons r
def inn (n : Nat) (p : Int) : Prop := 0 ≤ p ∧ p < (n : Int)
theorem chain_in {n : Nat} {p : Int} : (decide ((0 : Int) ≤ p) && decide (p < (n : Int))) = true ↔ inn n p := by
  rw [Bool.and_eq_true, decide_eq_true_eq, decide_eq_true_eq]; rfl
def rFill : List D → D → Prop := fun ds d => ∃ (n s p : Nat) (rs : List (List Int)), BOk n s rs ∧ p < n ∧ oddF n s rs = [] ∧ ds = [bk n s rs, .int (p : Int)] ∧ d = trooms (dueR p rs)
def rFillX : List D → XD → Prop := fun ds x => ∃ (n s : Nat) (p : Int) (rs : List (List Int)), BOk n s rs ∧ ds = [bk n s rs, .int p] ∧ ((¬ inn n p ∧ x = .mis "apex") ∨ (inn n p ∧ ∃ f r, oddF n s rs = f :: r ∧ x = .nev 0 f))
def rFilled : List D → D → Prop := fun ds d => ∃ (n s p : Nat) (rd : D) (due : List (List Int)), BOk n s due ∧ p < n ∧ (∀ r ∈ due, (p : Int) ∉ r) ∧ rInit [.int (n : Int), .int (s : Int), rd] (n : Int) (s : Int) due ∧ ds = [.int (n : Int), .int (s : Int), .int (p : Int), rd] ∧ d = bk n s (coneF n s p due)
def rFilledX : List D → XD → Prop := fun ds x => ∃ (n s : Nat) (p : Int) (rd : D) (due : List (List Int)), BOk n s due ∧ (¬ inn n p ∨ ∃ r ∈ due, p ∈ r) ∧ rInit [.int (n : Int), .int (s : Int), rd] (n : Int) (s : Int) due ∧ ds = [.int (n : Int), .int (s : Int), .int p, rd] ∧ x = .mis "apex"
def rNum : List D → D → Prop := fun ds d => ∃ (n s p : Nat) (rs : List (List Int)), BOk n s rs ∧ p < n ∧ oddF n s rs = [] ∧ ds = [bk n s rs, .int (p : Int)] ∧ d = natD (numL (woR n s (p : Int)) fun r => decide (r ∈ rs))
def cmb (n s : Nat) : Nat := (PySem.W.mcComb ((n : Int) - 1) (s : Int)).toNat
def rNB : List D → D → Prop := fun ds d => ∃ (n s p m : Nat), BOk n s [] ∧ p < n ∧ m < 2 ^ cmb n s ∧ ds = [.int (n : Int), .int (s : Int), natD m, .int (p : Int)] ∧ d = bk n s (coneF n s p (pick (woR n s (p : Int)) m))
def rNBX : List D → XD → Prop := fun ds x => ∃ (n s : Nat) (p m : Int), BOk n s [] ∧ ds = [.int (n : Int), .int (s : Int), .int m, .int p] ∧ ((¬ inn n p ∧ x = .mis "apex") ∨ (inn n p ∧ ¬ (0 ≤ m ∧ m < 2 ^ cmb n s) ∧ x = .mis "number"))
theorem woR_sub {n s p : Nat} (hn : n < 7) (hs : s < 8) (hp : p < n) : Sub n s (woR n s (p : Int)) := by
  rw [wo_eq n hn s hs p (by omega)]; exact List.filter_sublist
theorem woR_mem {n s p : Nat} (hn : n < 7) (hs : s < 8) (hp : p < n) {r : List Int} : r ∈ woR n s (p : Int) ↔ r ∈ allR n s ∧ (p : Int) ∉ r := by
  rw [wo_eq n hn s hs p (by omega), List.mem_filter]; simp
theorem up_all {n s p : Nat} (hn : n < 7) (hs : s < 7) (hp : p < n) {r : List Int} (hr : r ∈ allR n s) (h : (p : Int) ∉ r) : up (p : Int) r ∈ allR n (s + 1) := by
  have := List.all_eq_true.mp (up_mem n hn s hs p hp) r hr
  simpa [h] using this
section
variable {P : Program} {w : World} {K : PySem.W.Frag} {mg : Str → Option Value} {base : Heap} {C Cm Cn fM fN : Addr}
theorem ok_filling {k : Nat} {f : Addr} {fd : FuncData} (F : Fun K "filling" "filling" sFilling f fd) (B : Bl mg) (bf : Bk K C) (TM : NE.ETxt P K mg "Mismatch" "Mismatch.__init__" NE.sMis Cm fM) (noM : PySem.W.findIn K (.ref Cm) "fault" = some none)
    (TN : NE.ETxt P K mg "NotEven" "NotEven.__init__" NE.sNev Cn fN) (noA : PySem.W.findIn K (.ref Cn) "at" = some none) (noF : PySem.W.findIn K (.ref Cn) "face" = some none) (M_odd_faces : MDef P w K mg base CX0 k C "odd_faces" ["self"] (spR K C rOdd)) :
    FnOk P w K mg base (L2.CX P w) (k + 1) f fd ["book", "apex"] (spX K C Cm Cn rFill rFillX) := by
  refine fnX_ev F scFilling (fun ds d h => by obtain ⟨n, s, p, rs, _, _, _, rfl, _⟩ := h; rfl) (fun ds d h => by obtain ⟨n, s, p, rs, _, rfl, _⟩ := h; rfl) (fun ds _ cdv A outer st H X hr => ?_)
  refine ⟨_, (pss_cons (ps_if (pt_not (pt_chain op_le op_lt pe_int (pv 1) (kFld K (pv 0)))) (pss_one (ps_raise rfl (takes_of rfl rfl rfl rfl) (NE.pmk_mis TM noM hr (pa_cons pe_str pa_nil)))) pss_nil)
      (pss_cons (ps_set (i := 2) scFilling.nd rfl (.inl rfl) (pe_md0 M_odd_faces (hr.mono (by omega)) pass0 (pv 0)))
      (pss_cons (ps_if (pt_cmpR op_gt (pe_callB (kLen K) (by rfl) B.len (by decide +kernel) (pa_cons (pv 2) pa_nil)) pe_int (nomark _)) (pss_one (ps_raise rfl (takes_of rfl rfl rfl rfl) (NE.pmk_nev TN noA noF hr (pa_cons pe_int (pa_cons (pe_ix (kIxL K) (pv 2) pe_int (fun _ _ => rfl)) pa_nil))))) pss_nil)
      (pss_one (ps_ret (pe_callTy cr_tup (by rfl) B.tuple (by decide +kernel) (pa_cons (pe_lc (own := [("room", 3)]) (g := gName 3) (by rfl) scFilling.nd (pi_tup (kFld K (pv 0))) (blkOk_by (own := [("room", 3)]) (N := nFilling) (sc := defScope sFilling) (by decide +kernel)) (fun _ _ _ _ _ => (pg_name (i := 3) scFilling.nd rfl (.inl rfl))) (fun _ _ _ _ _ => (pts_one (pt_cmpR (kNotIn K) (pv 1) (pv 3) (by rfl)))) (fun _ _ _ _ _ => (pv 3))) pa_nil))))))), fun d h S0 H0 => ?_, fun x h S0 H0 hx => ?_⟩
  · obtain ⟨n, s, p, rs, ok, hp, ho, rfl, rfl⟩ := h
    have hin : inn n (p : Int) := ⟨by omega, by omega⟩
    refine sv_seq (sv_if (et_not (et_test (ev_chain ev_int (ev_var rfl) rv_B0 (fun _ => ev_fldN bf.cl bf.naP (ev_var rfl)) (fun _ => rv_B0)))) (fun z => ?_) (fun _ => sv_next ?_))
    · rw [chain_in.mpr hin] at z; cases z
    refine sv_seq (sv_asg (ev_meth rfl (ev_var rfl) ea_nil ⟨n, s, rs, ok, rfl, rfl⟩) ?_)
    rw [ho]
    refine sv_seq (sv_if (et_test (ev_op (ev_cb (ea_cons (ev_var rfl) ea_nil) rc_lenL) ev_int rv_B0)) (fun z => ?_) (fun _ => sv_next ?_))
    · cases z
    refine sv_ret (ev_cb (ea_cons (ev_is (ev_lcT (onR fun r => !decide ((p : Int) ∈ r)) id (ev_fldR bf.cl bf.naR (ev_var rfl)) (fun d hd => ?_)) (congrArg D.lst (lcRes_rooms rs _ _ (onR_room _) id fun _ => rfl))) ea_nil) rc_tupL) rfl
    obtain ⟨r, hr', rfl⟩ := List.mem_map.mp hd
    refine cstep_name (by simp) (et_is (et_test (ev_op (ev_var rfl) (ev_var rfl) rv_notInI)) ?_) (fun _ => ev_var rfl)
    rw [onR_room]
  · obtain ⟨n, s, p, rs, ok, rfl, h⟩ := h
    rcases h with ⟨hin, rfl⟩ | ⟨hin, f1, r1, ho, rfl⟩
    · refine sv_seq (sv_if (et_not (et_test (ev_chain ev_int (ev_var rfl) rv_B0 (fun _ => ev_fldN bf.cl bf.naP (ev_var rfl)) (fun _ => rv_B0)))) (fun _ => ?_) (fun z => ?_))
      · exact sv_mis (ea_cons ev_str ea_nil) hx
      · rw [Bool.not_eq_false'] at z
        exact absurd (chain_in.mp z) hin
    · refine sv_seq (sv_if (et_not (et_test (ev_chain ev_int (ev_var rfl) rv_B0 (fun _ => ev_fldN bf.cl bf.naP (ev_var rfl)) (fun _ => rv_B0)))) (fun z => ?_) (fun _ => sv_next ?_))
      · rw [chain_in.mpr hin] at z; cases z
      refine sv_seq (sv_asg (ev_meth rfl (ev_var rfl) ea_nil ⟨n, s, rs, ok, rfl, rfl⟩) ?_)
      rw [ho]
      refine sv_seq (sv_if (et_test (ev_op (ev_cb (ea_cons (ev_var rfl) ea_nil) rc_lenL) ev_int rv_B0)) (fun _ => ?_) (fun z => ?_))
      · exact sv_nev (ea_cons ev_int (ea_cons (ev_op (ev_var rfl) ev_int (rv_ixL (j := 0) rfl rfl)) ea_nil)) hx
      · have := of_decide_eq_false z
        simp at this
theorem ok_filled {k : Nat} {f : Addr} {fd : FuncData} (F : Fun K "filled" "filled" sFilled f fd) (B : Bl mg) (bf : Bk K C) (gC : mg "Book" = some (.ref C)) (TM : NE.ETxt P K mg "Mismatch" "Mismatch.__init__" NE.sMis Cm fM) (noM : PySem.W.findIn K (.ref Cm) "fault" = some none)
    (KB : KDef P w K mg base CX0 k C "Book" ["self", "places", "size", "rooms"] (spI K C rInit)) (D_faces : Def P w K mg base CX0 k "faces" ["room"] (spR K C rFaces)) (D_merged : Def P w K mg base CX0 k "merged" ["first", "second"] (spR K C rMerged)) :
    FnOk P w K mg base (L2.CX P w) (k + 2) f fd ["places", "size", "apex", "rooms"] (spX K C Cm Cn rFilled rFilledX) := by
  refine fnX_ev F scFilled (fun ds d h => by obtain ⟨n, s, p, rd, due, _, _, _, _, rfl, _⟩ := h; rfl) (fun ds d h => by obtain ⟨n, s, p, rd, due, _, _, _, rfl, _⟩ := h; rfl) (fun ds _ cdv A outer st H X hr => ?_)
  refine ⟨_, (pss_cons (ps_set (i := 4) scFilled.nd rfl (.inl rfl) (pe_kd KB (hr.mono (by omega)) (by rfl) pass0 (pa_cons (pv 0) (pa_cons (pv 1) (pa_cons (pv 3) pa_nil)))))
      (pss_cons (ps_if (PW.pt (pw_or (pt_not (pt_chain op_le op_lt pe_int (pv 2) (pv 0))) (pw_or1 (pt_cmpR op_gt (pe_callB (kLen K) (by rfl) B.len (by decide +kernel) (pa_cons (pe_lc (own := [("room", 6)]) (g := gName 6) (by rfl) scFilled.nd (pi_tup (kFld K (pv 4))) (blkOk_by (own := [("room", 6)]) (N := nFilled) (sc := defScope sFilled) (by decide +kernel)) (fun _ _ _ _ _ => (pg_name (i := 6) scFilled.nd rfl (.inl rfl))) (fun _ _ _ _ _ => (pts_one (pt_cmpR (kIn K) (pv 2) (pv 6) (by rfl)))) (fun _ _ _ _ _ => (pv 6))) pa_nil)) pe_int (nomark _))))) (pss_one (ps_raise rfl (takes_of rfl rfl rfl rfl) (NE.pmk_mis TM noM hr (pa_cons pe_str pa_nil)))) pss_nil)
      (pss_cons (ps_set (i := 5) scFilled.nd rfl (.inr rfl) pe_dnewT)
      (pss_cons (ps_for (passes_of rfl) (by rfl) (pi_tup (kFld K (pv 4))) (pg_name (i := 6) scFilled.nd rfl (.inl rfl))
       (pss_one (ps_for (passes_of rfl) (by rfl) (pi_list (pe_cd D_faces (hr.mono (by omega)) (by rfl) pass0 (pa_cons (pe_cd D_merged (hr.mono (by omega)) (by rfl) pass0 (pa_cons (pv 6) (pa_cons (pe_tup (pa_cons (pv 2) pa_nil)) pa_nil))) pa_nil))) (pg_name (i := 7) scFilled.nd rfl (.inl rfl))
        (pss_one (ps_dput (hu_of hr) (pv 5) (pv 7) (pe_op op_add (pe_dget2 (hu_of hr) (pv 5) (pv 7) pe_int ⟨rfl, rfl, rfl, rfl⟩) pe_int) rfl)))))
      (pss_one (ps_ret (pe_kd KB (hr.mono (by omega)) (by rfl) pass0 (pa_cons (pv 0) (pa_cons (pv 1) (pa_cons (pe_lock (pe_lc (own := [("face", 7)]) (g := gName 7) (by rfl) scFilled.nd (pi_keys (pv 5)) (blkOk_by (own := [("face", 7)]) (N := nFilled) (sc := defScope sFilled) (by decide +kernel)) (fun _ _ _ _ _ => (pg_name (i := 7) scFilled.nd rfl (.inl rfl))) (fun _ _ _ _ _ => (pts_one (pt_cmpR op_eq (pe_op op_modN (pe_dget (hu_of hr) (pv 5) (pv 7) (fun _ _ => rfl)) pe_int) pe_int (nomark _)))) (fun _ _ _ _ _ => (pv 7)))) pa_nil)))))))))), fun d h S0 H0 => ?_, fun x h S0 H0 hx => ?_⟩
  · obtain ⟨n, s, p, rd, due, ok, hp, hno, hi, rfl, rfl⟩ := h
    have hin : inn n (p : Int) := ⟨by omega, by omega⟩
    have hn := ok.n7
    have hsn := ok.sn
    refine sv_seq (sv_asg (ev_make (ea_cons (ev_var rfl) (ea_cons (ev_var rfl) (ea_cons (ev_var rfl) ea_nil))) hi) ?_)
    refine sv_seq (sv_if (b := false) (et_is (et_or (b' := false) (et_not (et_test (ev_chain ev_int (ev_var rfl) rv_B0 (fun _ => ev_var rfl) (fun _ => rv_B0)))) (fun _ => et_is (et_test (ev_op (ev_cb (ea_cons (ev_is (ev_lcT (onR fun r => decide ((p : Int) ∈ r)) id (ev_fldR bf.cl bf.naR (ev_var rfl)) (fun d hd => ?_)) (d := .lst []) ?_) ea_nil) rc_lenL) ev_int rv_B0)) rfl)) ?_) (fun z => by cases z) (fun _ => sv_next ?_))
    · obtain ⟨r, hr', rfl⟩ := List.mem_map.mp hd
      refine cstep_name (by simp) (et_is (et_test (ev_op (ev_var rfl) (ev_var rfl) rv_inI)) ?_) (fun _ => ev_var rfl)
      rw [onR_room]
    · refine congrArg D.lst ((lcRes_rooms due _ _ (onR_room _) id fun _ => rfl).trans ?_)
      rw [List.filter_eq_nil_iff.mpr]
      · rfl
      · intro r hr'; simpa using hno r hr'
    · rw [chain_in.mpr hin]; rfl
    refine sv_seq (sv_dnew ?_)
    have hup : ∀ r ∈ due, up (p : Int) r ∈ allR n (s + 1) := fun r hr' => up_all hn (by omega) hp (ok.sub.subset hr') (hno r hr')
    have hall : ∀ g ∈ allF (due.map (up (p : Int))), g ∈ allR n s := fun g hg => by
      obtain ⟨q, hq, hf⟩ := List.mem_flatMap.mp hg
      obtain ⟨r, hr', rfl⟩ := List.mem_map.mp hq
      exact allR_face hn (by omega) (hup r hr') hf
    have hlen : (allF (due.map (up (p : Int)))).length ≤ 140 := by
      rw [allF_len (d := s + 1)]
      · rw [List.length_map]
        have h1 := ok.len
        exact Nat.mul_le_mul h1 (show s + 1 ≤ 7 by omega)
      · intro q hq
        obtain ⟨r, hr', rfl⟩ := List.mem_map.mp hq
        exact (roomOk hn (by omega) (hup r hr')).len
    refine sv_seq (sv_forT (ds := due.map room) (fun i Γ => ∃ s6 s7, Γ = [.val (.int (n : Int)), .val (.int (s : Int)), .val (.int (p : Int)), .val rd, .val (bk n s due), .md (kD (cnt (allF ((due.take i).map (up (p : Int)))))), s6, s7]) (ev_fldR bf.cl bf.naR (ev_var rfl)) ⟨_, _, rfl⟩ (fun i d Γ1 hd hI => ?_) (fun Γ1 hI => ?_))
    · obtain ⟨s6, s7, rfl⟩ := hI
      obtain ⟨r, hr', rfl⟩ := at_map hd
      have hmem := List.mem_of_getElem? hr'
      have rok := ok.mem hmem
      have rl := rok.len
      have uok := roomOk hn (show s + 1 < 8 by omega) (hup r hmem)
      have tk : allF ((due.take (i + 1)).map (up (p : Int))) = allF ((due.take i).map (up (p : Int))) ++ facesF (up (p : Int) r) := by
        rw [take_snoc hr', List.map_append]; unfold allF; rw [List.flatMap_append]; simp
      have hle : (allF ((due.take i).map (up (p : Int))) ++ facesF (up (p : Int) r)).length ≤ 140 := by
        rw [← tk]
        have h := congrArg (fun l => (allF (l.map (up (p : Int)))).length) (List.take_append_drop (i + 1) due)
        unfold allF at h hlen ⊢
        simp only [List.map_append, List.flatMap_append, List.length_append] at h
        omega
      refine step_name ?_
      refine sv_forL (ds := (facesF (up (p : Int) r)).map room) (fun j Γ => ∃ s7, Γ = [.val (.int (n : Int)), .val (.int (s : Int)), .val (.int (p : Int)), .val rd, .val (bk n s due), .md (kD (cnt (allF ((due.take i).map (up (p : Int))) ++ (facesF (up (p : Int) r)).take j))), .val (room r), s7])
        (ev_call0 (ea_cons (ev_call0 (ea_cons (ev_var rfl) (ea_cons (ev_tup (ea_cons (ev_var rfl) ea_nil) (by simp)) ea_nil)) ⟨r, [(p : Int)], rfl, by simp; omega, rfl⟩) ea_nil) ⟨up (p : Int) r, rfl, by rw [uok.len]; omega, rfl⟩) ⟨s7, by rw [List.take_zero, List.append_nil]; rfl⟩ (fun j d Γ1 hd hI => ?_) (fun Γ1 hI => ?_)
      · obtain ⟨s7, rfl⟩ := hI
        obtain ⟨g, hf, rfl⟩ := at_map hd
        have hlt : (cnt (allF ((due.take i).map (up (p : Int))) ++ (facesF (up (p : Int) r)).take j)).length < 1000 := by
          have h1 := (cnt_tal (allF ((due.take i).map (up (p : Int))) ++ (facesF (up (p : Int) r)).take j)).len
          rw [List.length_append] at hle
          rw [List.length_append, List.length_take] at h1
          omega
        refine step_name (sv_put rfl (ev_op (ev_get2 rfl (ev_var rfl) ev_int) ev_int rv_I0) (ev_var rfl) hlt ⟨.val (room g), ?_⟩)
        rw [take_snoc hf, ← List.append_assoc]
        unfold cnt
        rw [tallyW_snoc]; rfl
      · obtain ⟨s7, rfl⟩ := hI
        rw [List.length_map, List.take_length, ← tk]
        exact ⟨_, s7, rfl⟩
    · obtain ⟨s6, s7, rfl⟩ := hI
      rw [List.length_map, List.take_length]
      have hc := cnt_tal (allF (due.map (up (p : Int))))
      have hq : ∀ c : Nat, decide (((c : Int)).fmod 2 = 1) = (c % 2 == 1) := fun c => by
        rw [Int.fmod_eq_emod_of_nonneg _ (by decide)]
        rw [Bool.eq_iff_iff, decide_eq_true_eq, beq_iff_eq]; omega
      refine sv_ret (ev_make (ea_cons (ev_var rfl) (ea_cons (ev_var rfl) (ea_cons (ev_is (ev_lcD (kvs := kD (cnt (allF (due.map (up (p : Int)))))) rfl (onR fun f => decide (((getI (cnt (allF (due.map (up (p : Int))))) f).getD 0).fmod 2 = 1)) id (fun kv h => ?_) (fun kv h => ?_)) (congrArg D.lst (lcRes_keys _ _ _ (onR_room _) id fun _ => rfl))) ea_nil)))
        (mk_tup hn ok.s1 ok.sn (hc.nd.sublist List.filter_sublist) (fun g hg => ((hc.odd (q := fun z => decide (z.fmod 2 = 1)) hq hall g).mp hg).1) (sel_sub n s (oddP (allF (due.map (up (p : Int)))))) (fun g hg => ?_))) rfl
      · have h1 := mem_kD h
        rw [getI_mem, hc.val] at h1
        split at h1
        · rename_i hm
          have := (roomOk hn (by omega) (hall _ hm)).len
          omega
        · cases h1
      · obtain ⟨z, hz⟩ := get_mem (mem_kD h)
        refine cstep_name (by simp) ?_ (fun _ => ev_var rfl)
        refine et_is (et_test (ev_op (ev_op (ev_getz rfl .fd (ev_var rfl) hz) ev_int (rv_I (by decide))) ev_int rv_eqI)) ?_
        rw [onR_room, hz]; rfl
      · rw [mem_sel, hc.odd (q := fun z => decide (z.fmod 2 = 1)) hq hall g]
  · obtain ⟨n, s, p, rd, due, ok, hbad, hi, rfl, rfl⟩ := h
    refine sv_seq (sv_asg (ev_make (ea_cons (ev_var rfl) (ea_cons (ev_var rfl) (ea_cons (ev_var rfl) ea_nil))) hi) ?_)
    refine sv_seq (sv_if (b := true) (et_is (et_or (et_not (et_test (ev_chain ev_int (ev_var rfl) rv_B0 (fun _ => ev_var rfl) (fun _ => rv_B0)))) (fun _ => et_test (ev_op (ev_cb (ea_cons (ev_is (ev_lcT (onR fun r => decide (p ∈ r)) id (ev_fldR bf.cl bf.naR (ev_var rfl)) (fun d hd => ?_)) (congrArg D.lst (lcRes_rooms due _ _ (onR_room _) id fun _ => rfl))) ea_nil) rc_lenL) ev_int rv_B0))) ?_) (fun _ => sv_mis (ea_cons ev_str ea_nil) hx) (fun z => by cases z))
    · obtain ⟨r, hr', rfl⟩ := List.mem_map.mp hd
      refine cstep_name (by simp) (et_is (et_test (ev_op (ev_var rfl) (ev_var rfl) rv_inI)) ?_) (fun _ => ev_var rfl)
      rw [onR_room]
    · by_cases hin : inn n p
      · rw [chain_in.mpr hin]
        obtain ⟨r, hr', hpr⟩ := hbad.resolve_left (fun z => z hin)
        have hm : r ∈ due.filter (fun r => decide (p ∈ r)) := List.mem_filter.mpr ⟨hr', decide_eq_true hpr⟩
        have := List.length_pos_of_mem hm
        rw [List.length_map]
        simp only [Bool.not_true, Bool.false_or, decide_eq_true_eq]
        omega
      · have : (decide ((0 : Int) ≤ p) && decide (p < (n : Int))) = false := by
          cases e : (decide ((0 : Int) ≤ p) && decide (p < (n : Int))) with
          | false => rfl
          | true => exact absurd (chain_in.mp e) hin
        rw [this]; rfl
theorem ok_book_number {k : Nat} {dvs : List V} {f : Addr} {fd : FuncData} (F : FunD K "book_number" "book_number" (defArgs sBookNumber) (defBody sBookNumber) (defScope sBookNumber) dvs [] f fd) (bf : Bk K C)
    (D_filling : Def P w K mg base (L2.CX P w) k "filling" ["book", "apex"] (spX K C Cm Cn rFill rFillX)) (D_rooms_without : Def P w K mg base CX0 k "rooms_without" ["places", "size", "apex"] (spR K C rWithout)) :
    FnOk P w K mg base (L2.CX P w) (k + 1) f fd ["book", "apex"] (spX K C Cm Cn rNum rFillX) := by
  refine fnD_ev F scBookNumber (fun ds d h => by obtain ⟨n, s, p, rs, _, _, _, rfl, _⟩ := h; rfl) (fun ds d h => by obtain ⟨n, s, p, rs, _, rfl, _⟩ := h; rfl) (fun ds _ cdv A outer st H X hr => ?_)
  refine ⟨_, (pss_cons (NXD.ps_setDcT (i := 2) (own := [("room", 5)]) (g := gName 5) (tt := tYes) (hu_of hr) (by rfl) scBookNumber.nd rfl rfl (NXD.sw_trueD rfl rfl rfl (by decide +kernel)) (pi_tup (pe_cd D_filling (hr.mono (by omega)) (by rfl) (passes_call (takes_of rfl rfl rfl rfl) fun _ _ _ _ z => z) (pa_cons (pv 0) (pa_cons (pv 1) pa_nil)))) (blkOk_by (own := [("room", 5)]) (N := nBookNumber) (sc := defScope sBookNumber) (by decide +kernel)) (fun _ _ _ _ _ => (pg_name (i := 5) scBookNumber.nd rfl (.inl rfl))) (fun _ _ _ _ _ => pts_nil) (fun _ _ _ _ _ => (pv 5)) (fun _ _ _ _ _ => pe_bl))
      (pss_cons (ps_set (i := 3) scBookNumber.nd rfl (.inl rfl) pe_int)
      (pss_cons (ps_set (i := 4) scBookNumber.nd rfl (.inl rfl) pe_int)
      (pss_cons (ps_for (passes_of rfl) (by rfl) (pi_list (pe_cd D_rooms_without (hr.mono (by omega)) (by rfl) pass0 (pa_cons (kFld K (pv 0)) (pa_cons (kFld K (pv 0)) (pa_cons (pv 1) pa_nil))))) (pg_name (i := 5) scBookNumber.nd rfl (.inl rfl))
       (pss_cons (ps_if (pt_cmp (pc_din (hu_of hr) (pv 5) (pv 2))) (pss_one (ps_aug (i := 3) scBookNumber.nd rfl (.inl rfl) (pv 4) ip_add)) pss_nil)
       (pss_one (ps_aug (i := 4) scBookNumber.nd rfl (.inl rfl) pe_int ip_mul))))
      (pss_one (ps_ret (pv 3))))))), fun d h S0 H0 => ?_, fun x h S0 H0 hx => ?_⟩
  · obtain ⟨n, s, p, rs, ok, hp, ho, rfl, rfl⟩ := h
    have hn := ok.n7
    have hsn := ok.sn
    refine sv_seq (sv_dct (rs := dueR p rs) (ev_callX0 (ea_cons (ev_var rfl) (ea_cons (ev_var rfl) ea_nil)) ⟨n, s, p, rs, ok, hp, ho, rfl, rfl⟩) (by decide) (fun kvs hk => ?_) (by show 5 < 6; decide))
    refine sv_seq (sv_asg ev_int ?_)
    refine sv_seq (sv_asg ev_int ?_)
    have hwl : (woR n s (p : Int)).length ≤ 20 := (woR_sub hn (by omega) hp).len hn (by omega)
    refine sv_seq (sv_forL (ds := (woR n s (p : Int)).map room) (fun i Γ => ∃ s5, Γ = [.val (bk n s rs), .val (.int (p : Int)), .md kvs, .val (natD (numL ((woR n s (p : Int)).take i) fun r => decide (r ∈ rs))), .val (natD (2 ^ i)), s5])
      (ev_call0 (ea_cons (ev_fldN bf.cl bf.naP (ev_var rfl)) (ea_cons (ev_fldS bf.cl bf.naS (ev_var rfl)) (ea_cons (ev_var rfl) ea_nil))) ⟨n, s, p, hn, by omega, rfl, rfl⟩) ⟨_, rfl⟩ (fun i d Γ1 hd hI => ?_) (fun Γ1 hI => ?_))
    · obtain ⟨s5, rfl⟩ := hI
      obtain ⟨r, hr', rfl⟩ := at_map hd
      have hi := (List.getElem?_eq_some_iff.mp hr').1
      have hpr := ((woR_mem hn (by omega) hp).mp (List.mem_of_getElem? hr')).2
      have hdue : decide (r ∈ dueR p rs) = decide (r ∈ rs) := by
        unfold dueR; rw [decide_eq_decide, List.mem_filter]; simp [hpr]
      have htl : ((woR n s (p : Int)).take i).length = i := by rw [List.length_take]; omega
      have e2 : numL ((woR n s (p : Int)).take (i + 1)) (fun r => decide (r ∈ rs)) = numL ((woR n s (p : Int)).take i) (fun r => decide (r ∈ rs)) + (if decide (r ∈ rs) then 2 ^ i else 0) := by
        rw [take_snoc hr', numL_snoc, htl]
      refine step_name (sv_seq (sv_if (et_B (et_din rfl .md (ev_var rfl))) (fun z => ?_) (fun z => sv_next ?_)))
      · rw [hk.1, hdue] at z
        refine sv_augI rfl (ev_var rfl) ?_
        refine sv_augR rfl ev_int (.inr (by decide)) ⟨.val (room r), ?_⟩
        rw [e2, z, Nat.pow_succ]; simp [natD]
      · rw [hk.1, hdue] at z
        refine sv_augR rfl ev_int (.inr (by decide)) ⟨.val (room r), ?_⟩
        rw [e2, z, Nat.pow_succ]; simp [natD]
    · obtain ⟨s5, rfl⟩ := hI
      rw [List.length_map, List.take_length]
      exact sv_ret (ev_var rfl) rfl
  · have h0 := h
    obtain ⟨n, s, p, rs, ok, rfl, _⟩ := h
    exact sv_seq (sv_asgRa (ra_dct (ra_call (ea_cons (ev_var rfl) (ea_cons (ev_var rfl) ea_nil)) h0)) hx)
theorem pick_snoc_drop : ∀ (l : List (List Int)) (m i : Nat), pick (l.take i) m ++ pick (l.drop i) (m / 2 ^ i) = pick l m
  | _, m, 0 => by simp [pick]
  | [], m, i + 1 => by simp [pick]
  | r :: l, m, i + 1 => by
    simp only [List.take_succ_cons, List.drop_succ_cons, pick]
    rw [List.append_assoc, Nat.pow_succ, Nat.mul_comm, ← Nat.div_div_eq_div_mul, pick_snoc_drop l (m / 2) i]
theorem ok_numbered_book {k : Nat} {dvs : List V} {f : Addr} {fd : FuncData} (F : FunD K "numbered_book" "numbered_book" (defArgs sNumberedBook) (defBody sNumberedBook) (defScope sNumberedBook) dvs [] f fd) (TM : NE.ETxt P K mg "Mismatch" "Mismatch.__init__" NE.sMis Cm fM) (noM : PySem.W.findIn K (.ref Cm) "fault" = some none)
    (D_even_book_count : Def P w K mg base CX0 k "even_book_count" ["places", "size"] (spR K C rCount)) (D_rooms_without : Def P w K mg base CX0 k "rooms_without" ["places", "size", "apex"] (spR K C rWithout)) (D_filled : Def P w K mg base (L2.CX P w) k "filled" ["places", "size", "apex", "rooms"] (spX K C Cm Cn rFilled rFilledX)) :
    FnOk P w K mg base (L2.CX P w) (k + 1) f fd ["places", "size", "number", "apex"] (spX K C Cm Cn rNB rNBX) := by
  refine fnD_ev F scNumberedBook (fun ds d h => by obtain ⟨n, s, p, m, _, _, _, rfl, _⟩ := h; rfl) (fun ds d h => by obtain ⟨n, s, p, m, _, rfl, _⟩ := h; rfl) (fun ds _ cdv A outer st H X hr => ?_)
  refine ⟨_, (pss_cons (ps_set (i := 4) scNumberedBook.nd rfl (.inl rfl) (pe_cd D_even_book_count (hr.mono (by omega)) (by rfl) pass0 (pa_cons (pv 0) (pa_cons (pv 1) pa_nil))))
      (pss_cons (ps_if (pt_not (pt_chain op_le op_lt pe_int (pv 3) (pv 0))) (pss_one (ps_raise rfl (takes_of rfl rfl rfl rfl) (NE.pmk_mis TM noM hr (pa_cons pe_str pa_nil)))) pss_nil)
      (pss_cons (ps_if (pt_not (pt_chain op_le op_lt pe_int (pv 2) (pv 4))) (pss_one (ps_raise rfl (takes_of rfl rfl rfl rfl) (NE.pmk_mis TM noM hr (pa_cons pe_str pa_nil)))) pss_nil)
      (pss_cons (ps_set (i := 5) scNumberedBook.nd rfl (.inl rfl) (pe_lst pa_nil))
      (pss_cons (ps_set (i := 6) scNumberedBook.nd rfl (.inl rfl) (pv 2))
      (pss_cons (ps_for (passes_of rfl) (by rfl) (pi_list (pe_cd D_rooms_without (hr.mono (by omega)) (by rfl) pass0 (pa_cons (pv 0) (pa_cons (pv 1) (pa_cons (pv 3) pa_nil))))) (pg_name (i := 7) scNumberedBook.nd rfl (.inl rfl))
       (pss_cons (ps_if (pt_cmpR op_eq (pe_op op_modN (pv 6) pe_int) pe_int (nomark _)) (pss_one (ps_expr (pe_bm PySem.F.plainAttrs_list PySem.F.slot_list_append PySem.F.type_list_append mt_append (pv 5) (pa_cons (pv 7) pa_nil)))) pss_nil)
       (pss_one (ps_set (i := 6) scNumberedBook.nd rfl (.inl rfl) (pe_op op_fdivN (pv 6) pe_int)))))
      (pss_one (ps_ret (pe_cd D_filled (hr.mono (by omega)) (by rfl) (passes_call (takes_of rfl rfl rfl rfl) fun _ _ _ _ z => z) (pa_cons (pv 0) (pa_cons (pv 1) (pa_cons (pv 3) (pa_cons (pv 5) pa_nil))))))))))))), fun d h S0 H0 => ?_, fun x h S0 H0 hx => ?_⟩
  · obtain ⟨n, s, p, m, ok, hp, hm, rfl, rfl⟩ := h
    have hn := ok.n7
    have hsn := ok.sn
    have hin : inn n (p : Int) := ⟨by omega, by omega⟩
    have hm' : ((m : Nat) : Int) < 2 ^ cmb n s := by
      have : ((m : Nat) : Int) < ((2 ^ cmb n s : Nat) : Int) := by omega
      simpa using this
    refine sv_seq (sv_asg (ev_call0 (ea_cons (ev_var rfl) (ea_cons (ev_var rfl) ea_nil)) ⟨n, s, ok, rfl, rfl⟩) ?_)
    refine sv_seq (sv_if (et_not (et_test (ev_chain ev_int (ev_var rfl) rv_B0 (fun _ => ev_var rfl) (fun _ => rv_B0)))) (fun z => ?_) (fun _ => sv_next ?_))
    · rw [chain_in.mpr hin] at z; cases z
    refine sv_seq (sv_if (et_not (et_test (ev_chain ev_int (ev_var rfl) rv_B0 (fun _ => ev_var rfl) (fun _ => rv_B0)))) (fun z => ?_) (fun _ => sv_next ?_))
    · have e1 : decide ((0 : Int) ≤ (m : Int)) = true := decide_eq_true (by omega)
      have e2 : decide ((m : Int) < 2 ^ (PySem.W.mcComb ((n : Int) - 1) (s : Int)).toNat) = true := decide_eq_true hm'
      rw [e1, e2] at z; cases z
    refine sv_seq (sv_lnew ea_nil (by simp) ?_)
    refine sv_seq (sv_asg (ev_var rfl) ?_)
    have hwl : (woR n s (p : Int)).length ≤ 20 := (woR_sub hn (by omega) hp).len hn (by omega)
    refine sv_seq (sv_forL (ds := (woR n s (p : Int)).map room) (fun i Γ => ∃ s7, Γ = [.val (.int (n : Int)), .val (.int (s : Int)), .val (natD m), .val (.int (p : Int)), .val (.int (2 ^ cmb n s)), .ml ((pick ((woR n s (p : Int)).take i) m).map room), .val (natD (m / 2 ^ i)), s7])
      (ev_call0 (ea_cons (ev_var rfl) (ea_cons (ev_var rfl) (ea_cons (ev_var rfl) ea_nil))) ⟨n, s, p, hn, by omega, rfl, rfl⟩) ⟨_, by simp only [Nat.pow_zero, Nat.div_one]; rfl⟩ (fun i d Γ1 hd hI => ?_) (fun Γ1 hI => ?_))
    · obtain ⟨s7, rfl⟩ := hI
      obtain ⟨r, hr', rfl⟩ := at_map hd
      have hi := (List.getElem?_eq_some_iff.mp hr').1
      have e2 : pick ((woR n s (p : Int)).take (i + 1)) m = pick ((woR n s (p : Int)).take i) m ++ (if m / 2 ^ i % 2 = 1 then [r] else []) := by
        rw [take_snoc hr', ← pick_snoc_drop (_ ++ [r]) m i]
        have htl : ((woR n s (p : Int)).take i).length = i := by rw [List.length_take]; omega
        rw [List.take_append_of_le_length (by omega), List.take_of_length_le (by omega), List.drop_append_of_le_length (by omega), List.drop_of_length_le (by omega)]
        simp [pick]
      have e3 : m / 2 ^ (i + 1) = m / 2 ^ i / 2 := by rw [Nat.pow_succ, Nat.div_div_eq_div_mul]
      have hpl : (pick ((woR n s (p : Int)).take i) m).length ≤ 20 := Nat.le_trans (pick_sub _ m).length_le (by rw [List.length_take]; omega)
      generalize m / 2 ^ i = q at e2 e3 ⊢
      have f2 : (q : Int).fmod 2 = ((q % 2 : Nat) : Int) := by rw [Int.fmod_eq_emod_of_nonneg _ (by decide)]; rfl
      have f3 : (q : Int).fdiv 2 = ((q / 2 : Nat) : Int) := by rw [Int.fdiv_eq_ediv_of_nonneg _ (by decide)]; rfl
      refine step_name (sv_seq (sv_if (et_test (ev_op (ev_op (ev_var rfl) ev_int (rv_I (by decide))) ev_int rv_eqI)) (fun z => ?_) (fun z => sv_next ?_)))
      · rw [f2] at z
        have hz : q % 2 = 1 := by have := of_decide_eq_true z; omega
        rw [if_pos hz] at e2
        refine sv_append (i := 5) rfl (ev_var rfl) (by rw [List.length_map]; omega) ?_
        refine sv_asg (ev_op (ev_var rfl) ev_int (rv_I ⟨by decide, by decide⟩)) ⟨.val (room r), ?_⟩
        rw [e2, e3, f3]; simp [natD]
      · rw [f2] at z
        have hz : ¬ q % 2 = 1 := fun w => by rw [w] at z; simp at z
        rw [if_neg hz, List.append_nil] at e2
        refine sv_asg (ev_op (ev_var rfl) ev_int (rv_I ⟨by decide, by decide⟩)) ⟨.val (room r), ?_⟩
        rw [e2, e3, f3]; rfl
    · obtain ⟨s7, rfl⟩ := hI
      rw [List.length_map, List.take_length]
      have hps := pick_sub (woR n s (p : Int)) m
      have hsub : Sub n s (pick (woR n s (p : Int)) m) := hps.trans (woR_sub hn (by omega) hp)
      have okp : BOk n s (pick (woR n s (p : Int)) m) := ⟨hn, ok.s1, ok.sn, hsub⟩
      refine sv_freezeL (i := 5) rfl (sv_ret (ev_callX0 (ea_cons (ev_var rfl) (ea_cons (ev_var rfl) (ea_cons (ev_var rfl) (ea_cons (ev_var rfl) ea_nil)))) ⟨n, s, p, rooms (pick (woR n s (p : Int)) m), pick (woR n s (p : Int)) m, okp, hp, fun r hr' => ((woR_mem hn (by omega) hp).mp (hps.subset hr')).2, mk_sub hn ok.s1 ok.sn hsub, rfl, rfl⟩) rfl)
  · obtain ⟨n, s, p, m, ok, rfl, h⟩ := h
    refine sv_seq (sv_asg (ev_call0 (ea_cons (ev_var rfl) (ea_cons (ev_var rfl) ea_nil)) ⟨n, s, ok, rfl, rfl⟩) ?_)
    rcases h with ⟨hin, rfl⟩ | ⟨hin, hbad, rfl⟩
    · refine sv_seq (sv_if (et_not (et_test (ev_chain ev_int (ev_var rfl) rv_B0 (fun _ => ev_var rfl) (fun _ => rv_B0)))) (fun _ => sv_mis (ea_cons ev_str ea_nil) hx) (fun z => ?_))
      rw [Bool.not_eq_false'] at z
      exact absurd (chain_in.mp z) hin
    · refine sv_seq (sv_if (et_not (et_test (ev_chain ev_int (ev_var rfl) rv_B0 (fun _ => ev_var rfl) (fun _ => rv_B0)))) (fun z => ?_) (fun _ => sv_next ?_))
      · rw [chain_in.mpr hin] at z; cases z
      refine sv_seq (sv_if (et_not (et_test (ev_chain ev_int (ev_var rfl) rv_B0 (fun _ => ev_var rfl) (fun _ => rv_B0)))) (fun _ => sv_mis (ea_cons ev_str ea_nil) hx) (fun z => ?_))
      rw [Bool.not_eq_false', Bool.and_eq_true, decide_eq_true_eq, decide_eq_true_eq] at z
      exact absurd z hbad
end
end NA

set_option Elab.async false
set_option linter.all false
set_option maxRecDepth 100000
set_option maxHeartbeats 4000000
set_option autoImplicit false
namespace NA
open PySem PySem.Spec PyProof.Rows L2
abbrev sLawCell : Stmt := topS 35
abbrev nLawCell : List Str := ["_law_script", "_law_k", "_law_cell_here"]
theorem scLawCell : FnScope nLawCell ["_law_script", "_law_k"] (defScope sLawCell) := ⟨rfl, rfl, rfl, by decide +kernel, rfl, by decide +kernel, by decide +kernel⟩
abbrev sLawEvenRooms : Stmt := topS 38
abbrev nLawEvenRooms : List Str := ["_law_n", "_law_size", "_law_cell_here", "_law_known", "_law_room", "_law_whole", "_law_k", "_law_face"]
theorem scLawEvenRooms : FnScope nLawEvenRooms ["_law_n", "_law_size", "_law_cell_here"] (defScope sLawEvenRooms) := ⟨rfl, rfl, rfl, by decide +kernel, rfl, by decide +kernel, by decide +kernel⟩
abbrev sLawSum : Stmt := topS 39
abbrev nLawSum : List Str := ["_law_rows", "_law_known", "_law_row", "_law_room"]
theorem scLawSum : FnScope nLawSum ["_law_rows"] (defScope sLawSum) := ⟨rfl, rfl, rfl, by decide +kernel, rfl, by decide +kernel, by decide +kernel⟩
abbrev sLawOddFaces : Stmt := topS 40
abbrev nLawOddFaces : List Str := ["_law_rooms_here", "_law_known", "_law_room", "_law_k", "_law_face"]
theorem scLawOddFaces : FnScope nLawOddFaces ["_law_rooms_here"] (defScope sLawOddFaces) := ⟨rfl, rfl, rfl, by decide +kernel, rfl, by decide +kernel, by decide +kernel⟩
abbrev sLawWithout : Stmt := topS 42
abbrev nLawWithout : List Str := ["_law_n", "_law_size", "_law_outside", "_law_p"]
theorem scLawWithout : FnScope nLawWithout ["_law_n", "_law_size", "_law_outside"] (defScope sLawWithout) := ⟨rfl, rfl, rfl, by decide +kernel, rfl, by decide +kernel, by decide +kernel⟩
abbrev sLawNumber : Stmt := topS 43
abbrev nLawNumber : List Str := ["_law_n", "_law_size", "_law_rooms_here", "_law_outside", "_law_number_here", "_law_weight", "_law_room"]
theorem scLawNumber : FnScope nLawNumber ["_law_n", "_law_size", "_law_rooms_here", "_law_outside"] (defScope sLawNumber) := ⟨rfl, rfl, rfl, by decide +kernel, rfl, by decide +kernel, by decide +kernel⟩
/-! ### the draw -/
def absI (z : Int) : Int := if z < 0 then -z else z
def finC (h : Int) (k : Nat) : Int := ((((h * 48271 + 11 * (k : Int) + 7).fmod 2147483647) * ((h * 48271 + 11 * (k : Int) + 7).fmod 2147483647) + 69621 * ((h * 48271 + 11 * (k : Int) + 7).fmod 2147483647) + (k : Int)) * 1000000000039).fmod 2305843009213693951 |>.fdiv 2
def cellF (ns : List Int) (k : Nat) : Int :=
  if k < ns.length then (if absI (ns.getD k 0) ≥ 10 ^ 18 then absI (ns.getD k 0) - 10 ^ 18 else finC (absI (ns.getD k 0)) k)
  else if 0 < ns.length then finC (absI (ns.getD (k % ns.length) 0) + 101 * (k : Int)) k else finC (17 * (k : Int) + 5) k
def rCell : List D → D → Prop := fun ds d => ∃ (ns : List Int) (k : Nat), ds = [.scr ns, .int (k : Int)] ∧ k ≤ 100 ∧ ns.length ≤ 63 ∧ d = .int (cellF ns k)
/-! ### sums -/
def pickZ : List (List Int) → Int → List (List Int)
  | [], _ => []
  | r :: l, m => (if m.fmod 2 = 1 then [r] else []) ++ pickZ l (m.fdiv 2)
def shZ : Int → Nat → Int
  | m, 0 => m
  | m, i + 1 => (shZ m i).fdiv 2
theorem shZ_succ (m : Int) : ∀ i, shZ (m.fdiv 2) i = shZ m (i + 1)
  | 0 => rfl
  | i + 1 => by show (shZ (m.fdiv 2) i).fdiv 2 = _; rw [shZ_succ m i]; rfl
theorem pickZ_snoc (r : List Int) : ∀ (l : List (List Int)) (m : Int), pickZ (l ++ [r]) m = pickZ l m ++ (if (shZ m l.length).fmod 2 = 1 then [r] else [])
  | [], m => by simp [pickZ, shZ]
  | a :: l, m => by
    simp only [List.cons_append, pickZ, List.length_cons]
    rw [pickZ_snoc r l, shZ_succ, List.append_assoc]
theorem pickZ_sub : ∀ (l : List (List Int)) (m : Int), (pickZ l m).Sublist l
  | [], _ => List.Sublist.refl _
  | r :: l, m => by
    simp only [pickZ]
    split
    · exact (pickZ_sub l (m.fdiv 2)).cons_cons r
    · exact (pickZ_sub l (m.fdiv 2)).cons r
def lastR (n : Nat) (r : List Int) : List Int := r ++ [((n : Int) - 1)]
def evR (n s : Nat) (c : Int) : List (List Int) := sel n s (oddP (allF ((pickZ (allR (n - 1) s) c).map (lastR n))))
theorem last_mem : ∀ n : Nat, n < 7 → ∀ s : Nat, s < 7 → (allR (n - 1) s).all (fun r => decide (n = 0) || (allR n (s + 1)).contains (lastR n r)) = true := by decide +kernel
theorem lastR_all {n s : Nat} (hn : n < 7) (h0 : 0 < n) (hs : s < 7) {r : List Int} (hr : r ∈ allR (n - 1) s) : lastR n r ∈ allR n (s + 1) := by
  have := List.all_eq_true.mp (last_mem n hn s hs) r hr
  have h : ¬ n = 0 := by omega
  simpa [h] using this
def sumR (n s : Nat) (rows : List (List (List Int))) : List (List Int) := sel n s (oddP rows.flatten)
def rEvR : List D → D → Prop := fun ds d => ∃ (n s : Nat) (c : Int), n < 7 ∧ 1 ≤ s ∧ s ≤ n ∧ ds = [.int (n : Int), .int (s : Int), .int c] ∧ d = rooms (evR n s c)
def rSum' : List D → D → Prop := fun ds d => ∃ (n s : Nat) (rows : List (List (List Int))), (∀ rs ∈ rows, BOk n s rs) ∧ rows ≠ [] ∧ rows.length ≤ 20 ∧ ds = [.lst (rows.map rooms)] ∧ d = rooms (sumR n s rows)
def rOddF : List D → D → Prop := fun ds d => ∃ (n s : Nat) (rs : List (List Int)), BOk n s rs ∧ ds = [rooms rs] ∧ d = rooms (oddF n s rs)
def rNumL : List D → D → Prop := fun ds d => ∃ (n s p : Nat) (rs : List (List Int)), n < 7 ∧ s ≤ 6 ∧ p < n ∧ ds = [.int (n : Int), .int (s : Int), rooms rs, .int (p : Int)] ∧ d = natD (numL (woR n s (p : Int)) fun r => decide (r ∈ rs))
theorem tog_snoc (l : List (List Int)) (f : List Int) : tog (l ++ [f]) = putI (tog l) f (1 - (getI (tog l) f).getD 0) := by unfold tog; rw [tallyW_snoc]
theorem tog_sort {l : List (List Int)} {n s : Nat} (hn : n < 7) (hs : s < 8) (hl : ∀ f ∈ l, f ∈ allR n s) : SortTo (((tog l).map (·.1)).filter (fun f => decide ((getI (tog l) f).getD 0 = 1))) (sel n s (oddP l)) s :=
  (tog_tal l).sort (q := fun z => decide (z = 1)) (fun c => by rw [Bool.eq_iff_iff, decide_eq_true_eq, beq_iff_eq]; omega) hn hs hl
section
variable {K : PySem.W.Frag} {C : Addr} {S S' H H' S0 H0 : Hp} {σ : L2.St} {Γ Γ' : List Sl} {E : AE} {te ty : TE}
/-- [r for r in known if known[r] == 1], sorted -/
theorem ev_togs {i j : Nat} {l : List (List Int)} {n s : Nat} (hi : Γ[i]? = some (.md (kD (tog l)))) (hn : n < 7) (hs : s < 8) (hl : ∀ f ∈ l, f ∈ allR n s) (hj : ((wipeG (Γ.set i (.fd (kD (tog l)))) [j]).set j (.val (room [])))[i]? = some (.fd (kD (tog l)))) (hij : i ≠ j) (hjl : j < Γ.length) :
    EvE K C (tCB (NAX.rSortRL K) (tCons (tLockE (tLc (iKeys (tVar i)) (gName j) (tTest (tOp rEq (tDGet (tVar i) (tVar j)) (tC (.int 1)))) (tVar j) [j])) tNil)) Γ (rooms (sel n s (oddP l))) := by
  refine ev_cb (ea_cons (ev_is (ev_lcD (kvs := kD (tog l)) hi (onR fun f => decide ((getI (tog l) f).getD 0 = 1)) id (fun kv h => ?_) (fun kv h => ?_)) (congrArg D.lst (lcRes_keys (tog l) _ _ (onR_room _) id fun _ => rfl))) ea_nil) (rc_sortRL (tog_sort hn hs hl))
  · have h1 := mem_kD h
    rw [getI_mem, (tog_tal l).val] at h1
    split at h1
    · rename_i hm
      have := (roomOk hn hs (hl _ hm)).len
      omega
    · cases h1
  · obtain ⟨z, hz⟩ := get_mem (mem_kD h)
    have hg : ((wipeG (Γ.set i (.fd (kD (tog l)))) [j]).set j (.val (room kv.1)))[i]? = some (.fd (kD (tog l))) := by
      rw [List.getElem?_set, if_neg hij.symm] at hj ⊢; exact hj
    have hv : ((wipeG (Γ.set i (.fd (kD (tog l)))) [j]).set j (.val (room kv.1)))[j]? = some (.val (room kv.1)) := by
      rw [List.getElem?_set, if_pos rfl, if_pos]
      unfold wipeG wipeG; simpa using hjl
    refine cstep_name (by simp) ?_ (fun _ => ev_var hv)
    refine et_is (et_test (ev_op (ev_getz hg .fd (ev_var hv) hz) ev_int rv_eqI)) ?_
    rw [onR_room, hz]; rfl
end
section
variable {P : Program} {w : World} {K : PySem.W.Frag} {mg : Str → Option Value} {base : Heap} {C : Addr}
theorem ok_law_cell {k : Nat} {f : Addr} {fd : FuncData} (F : Fun K "_law_cell" "_law_cell" sLawCell f fd) (B : Bl mg) : FnOk P w K mg base CX0 (k + 1) f fd ["_law_script", "_law_k"] (spR K C rCell) := by
  refine fn_ev F scLawCell (fun ds d h => by obtain ⟨ns, j, rfl, _⟩ := h; rfl) (fun ds d h cdv A outer st H E hr => ?_)
  obtain ⟨ns, j, rfl, hj, hl, rfl⟩ := h
  refine ⟨_, (pss_cons (ps_set (i := 2) scLawCell.nd rfl (.inl rfl) (pe_op op_add (pe_op op_mul pe_int (pv 1)) pe_int))
      (pss_cons (ps_if (pt_cmpR op_lt (pv 1) (pe_callB (kLen K) (by rfl) B.len (by decide +kernel) (pa_cons (pv 0) pa_nil)) (nomark _)) (pss_cons (ps_set (i := 2) scLawCell.nd rfl (.inl rfl) (pe_callB cr_abs (by rfl) B.abs (by decide +kernel) (pa_cons (pe_ix (kIxL K) (pv 0) (pv 1) (fun _ _ => rfl)) pa_nil)))
       (pss_one (ps_if (pt_cmpR op_ge (pv 2) (pe_op op_pow pe_int pe_int) (nomark _)) (pss_one (ps_ret (pe_op op_sub (pv 2) (pe_op op_pow pe_int pe_int)))) pss_nil))) (pss_one (ps_if (pt_cmpR op_gt (pe_callB (kLen K) (by rfl) B.len (by decide +kernel) (pa_cons (pv 0) pa_nil)) pe_int (nomark _)) (pss_one (ps_set (i := 2) scLawCell.nd rfl (.inl rfl) (pe_op op_add (pe_callB cr_abs (by rfl) B.abs (by decide +kernel) (pa_cons (pe_ix (kIxL K) (pv 0) (pe_op op_modN (pe_callTy cr_int (by rfl) B.int (by decide +kernel) (pa_cons (pv 1) pa_nil)) (pe_callB (kLen K) (by rfl) B.len (by decide +kernel) (pa_cons (pv 0) pa_nil))) (fun _ _ => rfl)) pa_nil)) (pe_op op_mul pe_int (pv 1))))) pss_nil)))
      (pss_cons (ps_set (i := 2) scLawCell.nd rfl (.inl rfl) (pe_op op_modN (pe_callTy cr_int (by rfl) B.int (by decide +kernel) (pa_cons (pe_op op_add (pe_op op_add (pe_op op_mul (pv 2) pe_int) (pe_op op_mul pe_int (pv 1))) pe_int) pa_nil)) pe_int))
      (pss_one (ps_ret (pe_op op_fdivN (pe_op op_modN (pe_callTy cr_int (by rfl) B.int (by decide +kernel) (pa_cons (pe_op op_mul (pe_op op_add (pe_op op_add (pe_op op_mul (pv 2) (pv 2)) (pe_op op_mul pe_int (pv 2))) (pv 1)) pe_int) pa_nil)) pe_int) pe_int)))))), fun S0 H0 => ?_⟩
  have fin : ∀ z : Int, SvE K C S0 H0 (tSeq (tAsg (tOp (rI (fun _ j => j ≠ 0) fun i j => .int (i.fmod j)) (tCB rInt1 (tCons (tOp (rI0 fun i j => .int (i + j)) (tOp (rI0 fun i j => .int (i + j)) (tOp (rI CMul fun i j => .int (i * j)) (tVar 2) (tC (.int 48271))) (tOp (rI CMul fun i j => .int (i * j)) (tC (.int 11)) (tVar 1))) (tC (.int 7))) tNil)) (tC (.int 2147483647))) (gName 2))
      (tRet (tOp (rI CDivN fun i j => .int (i.fdiv j)) (tOp (rI (fun _ j => j ≠ 0) fun i j => .int (i.fmod j)) (tCB rInt1 (tCons (tOp (rI CMul fun i j => .int (i * j)) (tOp (rI0 fun i j => .int (i + j)) (tOp (rI0 fun i j => .int (i + j)) (tOp (rI CMul fun i j => .int (i * j)) (tVar 2) (tVar 2)) (tOp (rI CMul fun i j => .int (i * j)) (tC (.int 69621)) (tVar 2))) (tVar 1)) (tC (.int 1000000000039))) tNil)) (tC (.int 2305843009213693951))) (tC (.int 2)))))
      [.val (.scr ns), .val (.int (j : Int)), .val (.int z)] { rt := fun d' => d' = .int (finC z j), nx := fun _ => D.int (finC z j) = .non } := fun z => by
    refine sv_seq (sv_asg (ev_op (ev_cb (ea_cons (ev_op (ev_op (ev_op (ev_var rfl) ev_int (rv_I (.inr (by decide)))) (ev_op ev_int (ev_var rfl) (rv_I (.inl (by decide)))) rv_I0) ev_int rv_I0) ea_nil) rc_int) ev_int (rv_I (by decide))) ?_)
    have hb : ∀ a : Int, -(2 ^ 64) < a.fmod 2147483647 ∧ a.fmod 2147483647 < 2 ^ 64 := fun a => by
      rw [Int.fmod_eq_emod_of_nonneg _ (by decide)]
      have h1 := Int.emod_nonneg a (show (2147483647 : Int) ≠ 0 by decide)
      have h2 := Int.emod_lt_of_pos a (show (0 : Int) < 2147483647 by decide)
      omega
    exact sv_ret (ev_op (ev_op (ev_cb (ea_cons (ev_op (ev_op (ev_op (ev_op (ev_var rfl) (ev_var rfl) (rv_I (.inl (hb _)))) (ev_op ev_int (ev_var rfl) (rv_I (.inl (by decide)))) rv_I0) (ev_var rfl) rv_I0) ev_int (rv_I (.inr (by decide)))) ea_nil) rc_int) ev_int (rv_I (by decide))) ev_int (rv_I ⟨by decide, by decide⟩)) rfl
  refine sv_seq (sv_asg (ev_op (ev_op ev_int (ev_var rfl) (rv_I (.inl (by decide)))) ev_int rv_I0) ?_)
  refine sv_seq (sv_if (et_test (ev_op (ev_var rfl) (ev_cb (ea_cons (ev_var rfl) ea_nil) rc_lenS) rv_B0)) (fun z => ?_) (fun z => ?_))
  · have hlt : j < ns.length := by have := of_decide_eq_true z; omega
    have hat : ns[j]? = some (ns.getD j 0) := by rw [List.getD_eq_getElem?_getD, List.getElem?_eq_getElem hlt]; rfl
    refine sv_seq (sv_asg (ev_cb (ea_cons (ev_op (ev_var rfl) (ev_var rfl) (rv_ixS rfl hat)) ea_nil) rc_abs) ?_)
    refine sv_if (et_test (ev_op (ev_var rfl) (ev_op ev_int ev_int (rv_I ⟨by decide, by decide, by decide⟩)) rv_B0)) (fun z2 => ?_) (fun z2 => ?_)
    · have h2 : absI (ns.getD j 0) ≥ 10 ^ 18 := of_decide_eq_true z2
      refine sv_ret (ev_op (ev_var rfl) (ev_op ev_int ev_int (rv_I ⟨by decide, by decide, by decide⟩)) rv_I0) ?_
      show D.int _ = D.int _
      unfold cellF
      rw [if_pos hlt, if_pos h2]; rfl
    · have h2 : ¬ absI (ns.getD j 0) ≥ 10 ^ 18 := of_decide_eq_false z2
      refine sv_next ?_
      have e : cellF ns j = finC (absI (ns.getD j 0)) j := by unfold cellF; rw [if_pos hlt, if_neg h2]
      rw [e]
      exact fin _
  · have hlt : ¬ j < ns.length := by have := of_decide_eq_false z; omega
    refine sv_if (et_test (ev_op (ev_cb (ea_cons (ev_var rfl) ea_nil) rc_lenS) ev_int rv_B0)) (fun z2 => ?_) (fun z2 => sv_next ?_)
    · have h2 : 0 < ns.length := by have := of_decide_eq_true z2; omega
      have hm : j % ns.length < ns.length := Nat.mod_lt _ h2
      have hat : ns[j % ns.length]? = some (ns.getD (j % ns.length) 0) := by rw [List.getD_eq_getElem?_getD, List.getElem?_eq_getElem hm]; rfl
      refine sv_asg (ev_op (ev_cb (ea_cons (ev_op (ev_var rfl) (ev_op (ev_cb (ea_cons (ev_var rfl) ea_nil) rc_int) (ev_cb (ea_cons (ev_var rfl) ea_nil) rc_lenS) (rv_I (by omega))) (rv_ixS (j := j % ns.length) ?_ hat)) ea_nil) rc_abs) (ev_op ev_int (ev_var rfl) (rv_I (.inl (by decide)))) rv_I0) ?_
      · rw [Int.fmod_eq_emod_of_nonneg _ (by omega)]; rfl
      · have e : cellF ns j = finC (absI (ns.getD (j % ns.length) 0) + 101 * (j : Int)) j := by unfold cellF; rw [if_neg hlt, if_pos h2]
        rw [e]
        exact fin _
    · have h2 : ¬ 0 < ns.length := by have := of_decide_eq_false z2; omega
      have e : cellF ns j = finC (17 * (j : Int) + 5) j := by unfold cellF; rw [if_neg hlt, if_neg h2]
      rw [e]
      exact fin _
theorem ok_law_without {k : Nat} {f : Addr} {fd : FuncData} (F : Fun K "_law_without" "_law_without" sLawWithout f fd) (B : Bl mg) (D_law_rooms : Def P w K mg base CX0 k "_law_rooms" ["_law_items", "_law_size"] (spR K C (rSubs 6))) : FnOk P w K mg base CX0 (k + 1) f fd ["_law_n", "_law_size", "_law_outside"] (spR K C rWithout) := by
  refine fn_ev F scLawWithout (fun ds d h => by obtain ⟨n, s, p, _, _, rfl, _⟩ := h; rfl) (fun ds d h cdv A outer st H E hr => ?_)
  obtain ⟨n, s, p, h1, h2, rfl, rfl⟩ := h
  refine ⟨_, (pss_one (ps_ret (pe_cd D_law_rooms (hr.mono (by omega)) (by rfl) pass0 (pa_cons (pe_callTy cr_tup (by rfl) B.tuple (by decide +kernel) (pa_cons (pe_lc (own := [("_law_p", 3)]) (g := gName 3) (by rfl) scLawWithout.nd (pi_range1 (by rfl) B.range (pa_cons (pv 0) pa_nil)) (blkOk_by (own := [("_law_p", 3)]) (N := nLawWithout) (sc := defScope sLawWithout) (by decide +kernel)) (fun _ _ _ _ _ => (pg_name (i := 3) scLawWithout.nd rfl (.inl rfl))) (fun _ _ _ _ _ => (pts_one (pt_cmpR op_ne (pv 3) (pv 2) (nomark _)))) (fun _ _ _ _ _ => (pv 3))) pa_nil)) (pa_cons (pv 1) pa_nil))))), fun S0 H0 => ?_⟩
  refine sv_ret (ev_call0 (ea_cons (ev_cb (ea_cons (ev_is (ev_lcR (n := (n : Int)) (onI fun i => decide (i ≠ p)) id (ea_cons (ev_var rfl) ea_nil) (by omega) (fun i hi => ?_)) (d := .lst (((upI n).filter fun i => decide (i ≠ p)).map D.int)) ?_) ea_nil) rc_tupL) (ea_cons (ev_var rfl) ea_nil)) ⟨_, s, rfl, ?_, h2, h2, rfl⟩) rfl
  · refine cstep_name (by simp) (et_is (et_test (ev_op (ev_var rfl) (ev_var rfl) rv_neI)) ?_) (fun _ => ev_var rfl)
    show _ = decide ((i : Int) ≠ p)
    by_cases h : (i : Int) = p <;> simp [h]
  · rw [Int.toNat_natCast, upTo_eq]
    exact congrArg D.lst (lcRes_ints (upI n) _ _ (fun _ => rfl) id fun _ => rfl)
  · have := List.length_filter_le (fun i => decide (i ≠ p)) (upI n)
    rw [upI_len] at this; omega
theorem ok_law_number {k : Nat} {f : Addr} {fd : FuncData} (F : Fun K "_law_number" "_law_number" sLawNumber f fd) (D_law_without : Def P w K mg base CX0 k "_law_without" ["_law_n", "_law_size", "_law_outside"] (spR K C rWithout)) : FnOk P w K mg base CX0 (k + 1) f fd ["_law_n", "_law_size", "_law_rooms_here", "_law_outside"] (spR K C rNumL) := by
  refine fn_ev F scLawNumber (fun ds d h => by obtain ⟨n, s, p, rs, _, _, _, rfl, _⟩ := h; rfl) (fun ds d h cdv A outer st H E hr => ?_)
  obtain ⟨n, s, p, rs, hn, hs, hp, rfl, rfl⟩ := h
  refine ⟨_, (pss_cons (ps_set (i := 4) scLawNumber.nd rfl (.inl rfl) pe_int)
      (pss_cons (ps_set (i := 5) scLawNumber.nd rfl (.inl rfl) pe_int)
      (pss_cons (ps_for PassesOwn.never (by rfl) (pi_list (pe_cd D_law_without (hr.mono (by omega)) (by rfl) pass0 (pa_cons (pv 0) (pa_cons (pv 1) (pa_cons (pv 3) pa_nil))))) (pg_name (i := 6) scLawNumber.nd rfl (.inl rfl))
       (pss_cons (ps_if (pt_cmpR (kInD K (hu65_of hr)) (pv 6) (pv 2) (by rfl)) (pss_one (ps_set (i := 4) scLawNumber.nd rfl (.inl rfl) (pe_op op_add (pv 4) (pv 5)))) pss_nil)
       (pss_one (ps_set (i := 5) scLawNumber.nd rfl (.inl rfl) (pe_op op_mul pe_int (pv 5))))))
      (pss_one (ps_ret (pv 4)))))), fun S0 H0 => ?_⟩
  refine sv_seq (sv_asg ev_int ?_)
  refine sv_seq (sv_asg ev_int ?_)
  have hwl : (woR n s (p : Int)).length ≤ 20 := (woR_sub hn (by omega) hp).len hn (by omega)
  refine sv_seq (sv_forL (ds := (woR n s (p : Int)).map room) (fun i Γ => ∃ s6, Γ = [.val (.int (n : Int)), .val (.int (s : Int)), .val (rooms rs), .val (.int (p : Int)), .val (natD (numL ((woR n s (p : Int)).take i) fun r => decide (r ∈ rs))), .val (natD (2 ^ i)), s6])
    (ev_call0 (ea_cons (ev_var rfl) (ea_cons (ev_var rfl) (ea_cons (ev_var rfl) ea_nil))) ⟨n, s, p, hn, hs, rfl, rfl⟩) ⟨_, rfl⟩ (fun i d Γ1 hd hI => ?_) (fun Γ1 hI => ?_))
  · obtain ⟨s6, rfl⟩ := hI
    obtain ⟨r, hr', rfl⟩ := at_map hd
    have hi := (List.getElem?_eq_some_iff.mp hr').1
    have htl : ((woR n s (p : Int)).take i).length = i := by rw [List.length_take]; omega
    have e2 : numL ((woR n s (p : Int)).take (i + 1)) (fun r => decide (r ∈ rs)) = numL ((woR n s (p : Int)).take i) (fun r => decide (r ∈ rs)) + (if decide (r ∈ rs) then 2 ^ i else 0) := by
      rw [take_snoc hr', numL_snoc, htl]
    refine step_name (sv_seq (sv_if (et_test (ev_op (ev_var rfl) (ev_var rfl) rv_inDL)) (fun z => ?_) (fun z => sv_next ?_)))
    · refine sv_asg (ev_op (ev_var rfl) (ev_var rfl) rv_I0) ?_
      refine sv_asg (ev_op ev_int (ev_var rfl) (rv_I (.inl (by decide)))) ⟨.val (room r), ?_⟩
      rw [e2, z, Nat.pow_succ]; simp [natD]; omega
    · refine sv_asg (ev_op ev_int (ev_var rfl) (rv_I (.inl (by decide)))) ⟨.val (room r), ?_⟩
      rw [e2, z, Nat.pow_succ]; simp [natD]; omega
  · obtain ⟨s6, rfl⟩ := hI
    rw [List.length_map, List.take_length]
    exact sv_ret (ev_var rfl) rfl
theorem ok_law_sum {k : Nat} {f : Addr} {fd : FuncData} (F : Fun K "_law_sum" "_law_sum" sLawSum f fd) (B : Bl mg) : FnOk P w K mg base CX0 (k + 1) f fd ["_law_rows"] (spR K C rSum') := by
  refine fn_ev F scLawSum (fun ds d h => by obtain ⟨n, s, rows, _, _, _, rfl, _⟩ := h; rfl) (fun ds d h cdv A outer st H E hr => ?_)
  obtain ⟨n, s, rows, oks, hne, hl, rfl, rfl⟩ := h
  obtain ⟨r0, hr0⟩ := List.exists_mem_of_ne_nil _ hne
  have ok0 := oks r0 hr0
  have hall : ∀ g ∈ rows.flatten, g ∈ allR n s := fun g hg => by
    obtain ⟨rs, hrs, hg⟩ := List.mem_flatten.mp hg
    exact (oks rs hrs).sub.subset hg
  have hfl := flat_len oks
  refine ⟨_, (pss_cons (ps_set (i := 1) scLawSum.nd rfl (.inr rfl) pe_dnewT)
      (pss_cons (ps_for PassesOwn.never (by rfl) (pi_list (pv 0)) (pg_name (i := 2) scLawSum.nd rfl (.inl rfl))
       (pss_one (ps_for PassesOwn.never (by rfl) (pi_list (pv 2)) (pg_name (i := 3) scLawSum.nd rfl (.inl rfl))
        (pss_one (ps_dput (hu_of hr) (pv 1) (pv 3) (pe_op op_sub pe_int (pe_dget2 (hu_of hr) (pv 1) (pv 3) pe_int ⟨rfl, rfl, rfl, rfl⟩)) rfl)))))
      (pss_one (ps_ret (pe_callB NAX.cr_sortRL (by rfl) B.sorted (by decide +kernel) (pa_cons (pe_lock (pe_lc (own := [("_law_room", 3)]) (g := gName 3) (by rfl) scLawSum.nd (pi_keys (pv 1)) (blkOk_by (own := [("_law_room", 3)]) (N := nLawSum) (sc := defScope sLawSum) (by decide +kernel)) (fun _ _ _ _ _ => (pg_name (i := 3) scLawSum.nd rfl (.inl rfl))) (fun _ _ _ _ _ => (pts_one (pt_cmpR op_eq (pe_dget (hu_of hr) (pv 1) (pv 3) (fun _ _ => rfl)) pe_int (nomark _)))) (fun _ _ _ _ _ => (pv 3)))) pa_nil)))))), fun S0 H0 => ?_⟩
  refine sv_seq (sv_dnew ?_)
  refine sv_seq (sv_forL (ds := rows.map rooms) (fun i Γ => ∃ s2 s3, Γ = [.val (.lst (rows.map rooms)), .md (kD (tog (rows.take i).flatten)), s2, s3]) (ev_var rfl) ⟨_, _, rfl⟩ (fun i d Γ1 hd hI => ?_) (fun Γ1 hI => ?_))
  · obtain ⟨s2, s3, rfl⟩ := hI
    obtain ⟨rs, hrs, rfl⟩ := at_map hd
    have ef : (rows.take (i + 1)).flatten = (rows.take i).flatten ++ rs := by rw [take_snoc hrs]; simp
    have hle : ((rows.take i).flatten ++ rs).length < 1000 := by
      rw [← ef]
      have h := congrArg (fun l => l.flatten.length) (List.take_append_drop (i + 1) rows)
      simp only [List.flatten_append, List.length_append] at h
      omega
    refine step_name ?_
    refine sv_forL (ds := rs.map room) (fun j Γ => ∃ s3, Γ = [.val (.lst (rows.map rooms)), .md (kD (tog ((rows.take i).flatten ++ rs.take j))), .val (rooms rs), s3]) (ev_var rfl) ⟨s3, by rw [List.take_zero, List.append_nil]; rfl⟩ (fun j d Γ1 hd hI => ?_) (fun Γ1 hI => ?_)
    · obtain ⟨s3, rfl⟩ := hI
      obtain ⟨r, hr', rfl⟩ := at_map hd
      have hlt : (tog ((rows.take i).flatten ++ rs.take j)).length < 1000 := by
        have h1 := (tog_tal ((rows.take i).flatten ++ rs.take j)).len
        rw [List.length_append] at hle
        rw [List.length_append, List.length_take] at h1
        omega
      refine step_name (sv_put rfl (ev_op ev_int (ev_get2 rfl (ev_var rfl) ev_int) rv_I0) (ev_var rfl) hlt ⟨.val (room r), ?_⟩)
      rw [take_snoc hr', ← List.append_assoc, tog_snoc]; rfl
    · obtain ⟨s3, rfl⟩ := hI
      rw [List.length_map, List.take_length, ← ef]
      exact ⟨_, s3, rfl⟩
  · obtain ⟨s2, s3, rfl⟩ := hI
    rw [List.length_map, List.take_length]
    exact sv_ret (ev_togs (i := 1) (j := 3) rfl ok0.n7 ok0.s8 hall rfl (by decide) (by show 3 < 4; decide)) rfl
theorem ok_law_odd_faces {k : Nat} {f : Addr} {fd : FuncData} (F : Fun K "_law_odd_faces" "_law_odd_faces" sLawOddFaces f fd) (B : Bl mg) : FnOk P w K mg base CX0 (k + 1) f fd ["_law_rooms_here"] (spR K C rOddF) := by
  refine fn_ev F scLawOddFaces (fun ds d h => by obtain ⟨n, s, rs, _, rfl, _⟩ := h; rfl) (fun ds d h cdv A outer st H E hr => ?_)
  obtain ⟨n, s, rs, ok, rfl, rfl⟩ := h
  refine ⟨_, (pss_cons (ps_set (i := 1) scLawOddFaces.nd rfl (.inr rfl) pe_dnewT)
      (pss_cons (ps_for PassesOwn.never (by rfl) (pi_list (pv 0)) (pg_name (i := 2) scLawOddFaces.nd rfl (.inl rfl))
       (pss_one (ps_for PassesOwn.never (by rfl) (pi_range1 (by rfl) B.range (pa_cons (pe_callB (kLen K) (by rfl) B.len (by decide +kernel) (pa_cons (pv 2) pa_nil)) pa_nil)) (pg_name (i := 3) scLawOddFaces.nd rfl (.inl rfl))
        (pss_cons (ps_set (i := 4) scLawOddFaces.nd rfl (.inl rfl) (pe_op (kCatT K) (pe_slice (kSlT K) (pv 2) po_none (po_some (pv 3))) (pe_slice (kSlT K) (pv 2) (po_some (pe_op op_add (pv 3) pe_int)) po_none)))
        (pss_one (ps_dput (hu_of hr) (pv 1) (pv 4) (pe_op op_sub pe_int (pe_dget2 (hu_of hr) (pv 1) (pv 4) pe_int ⟨rfl, rfl, rfl, rfl⟩)) rfl))))))
      (pss_one (ps_ret (pe_callB NAX.cr_sortRL (by rfl) B.sorted (by decide +kernel) (pa_cons (pe_lock (pe_lc (own := [("_law_face", 4)]) (g := gName 4) (by rfl) scLawOddFaces.nd (pi_keys (pv 1)) (blkOk_by (own := [("_law_face", 4)]) (N := nLawOddFaces) (sc := defScope sLawOddFaces) (by decide +kernel)) (fun _ _ _ _ _ => (pg_name (i := 4) scLawOddFaces.nd rfl (.inl rfl))) (fun _ _ _ _ _ => (pts_one (pt_cmpR op_eq (pe_dget (hu_of hr) (pv 1) (pv 4) (fun _ _ => rfl)) pe_int (nomark _)))) (fun _ _ _ _ _ => (pv 4)))) pa_nil)))))), fun S0 H0 => ?_⟩
  have hn := ok.n7
  have hsn := ok.sn
  refine sv_seq (sv_dnew ?_)
  refine sv_seq (sv_forL (ds := rs.map room) (fun i Γ => ∃ s2 s3 s4, Γ = [.val (rooms rs), .md (kD (tog (allF (rs.take i)))), s2, s3, s4]) (ev_var rfl) ⟨_, _, _, rfl⟩ (fun i d Γ1 hd hI => ?_) (fun Γ1 hI => ?_))
  · obtain ⟨s2, s3, s4, rfl⟩ := hI
    obtain ⟨r, hr', rfl⟩ := at_map hd
    have rok := ok.mem (List.mem_of_getElem? hr')
    have rl := rok.len
    have ef := take_flat hr'
    have hle : (allF (rs.take i) ++ facesF r).length ≤ 120 := by
      rw [← ef]
      exact BOk.allF ⟨ok.n7, ok.s1, ok.sn, (List.take_sublist _ _).trans ok.sub⟩
    refine step_name ?_
    refine sv_forR (n := (r.length : Int)) (fun j Γ => ∃ s3 s4, j ≤ r.length ∧ Γ = [.val (rooms rs), .md (kD (tog (allF (rs.take i) ++ (facesF r).take j))), .val (room r), s3, s4]) (ea_cons (ev_is (ev_cb (ea_cons (ev_var rfl) ea_nil) rc_lenT) ?_) ea_nil) (by omega) ⟨s3, s4, Nat.zero_le _, by rw [List.take_zero, List.append_nil]; rfl⟩ (fun j Γ1 hj hI => ?_) (fun Γ1 hI => ?_)
    · rw [List.length_map]
    · obtain ⟨s3, s4, _, rfl⟩ := hI
      have hj' : j < r.length := by omega
      have hf : (facesF r)[j]? = some (r.eraseIdx j) := by unfold facesF; simp [hj']
      have hfl : (facesF r).length = r.length := by unfold facesF; simp
      have hlt : (tog (allF (rs.take i) ++ (facesF r).take j)).length < 1000 := by
        have h1 := (tog_tal (allF (rs.take i) ++ (facesF r).take j)).len
        rw [List.length_append] at hle
        rw [List.length_append, List.length_take] at h1
        omega
      refine step_name (sv_seq (sv_asg (d := room (r.eraseIdx j)) (ev_is (ev_op (ev_slT (ev_var rfl) eo_none (eo_some (ev_var rfl))) (ev_slT (ev_var rfl) (eo_some (ev_op (ev_var rfl) ev_int rv_I0)) eo_none) (rv_catT ?_)) ?_) ?_))
      · rw [cut_take r j (by omega), cut_drop r _ (j + 1) (by omega) (by omega)]; simp; omega
      · show D.tup _ = D.tup _
        rw [cut_take r j (by omega), cut_drop r _ (j + 1) (by omega) (by omega), erase_eq]
      refine sv_put rfl (ev_op ev_int (ev_get2 rfl (ev_var rfl) ev_int) rv_I0) (ev_var rfl) hlt ⟨.val (.int (j : Int)), .val (room (r.eraseIdx j)), hj', ?_⟩
      rw [take_snoc hf, ← List.append_assoc, tog_snoc]; rfl
    · obtain ⟨s3, s4, _, rfl⟩ := hI
      have hfl : (facesF r).length = r.length := by unfold facesF; simp
      rw [Int.toNat_natCast, ← hfl, List.take_length, ← ef]
      exact ⟨_, s3, s4, rfl⟩
  · obtain ⟨s2, s3, s4, rfl⟩ := hI
    rw [List.length_map, List.take_length]
    exact sv_ret (ev_togs (i := 1) (j := 4) rfl hn (show s - 1 < 8 by omega) ok.faces rfl (by decide) (by show 4 < 5; decide)) rfl
theorem ok_law_even_rooms {k : Nat} {f : Addr} {fd : FuncData} (F : Fun K "_law_even_rooms" "_law_even_rooms" sLawEvenRooms f fd) (B : Bl mg) (D_law_rooms : Def P w K mg base CX0 k "_law_rooms" ["_law_items", "_law_size"] (spR K C (rSubs 6))) : FnOk P w K mg base CX0 (k + 1) f fd ["_law_n", "_law_size", "_law_cell_here"] (spR K C rEvR) := by
  refine fn_ev F scLawEvenRooms (fun ds d h => by obtain ⟨n, s, c, _, _, _, rfl, _⟩ := h; rfl) (fun ds d h cdv A outer st H E hr => ?_)
  obtain ⟨n, s, c, hn, h1, hsn, rfl, rfl⟩ := h
  have hup : ∀ r ∈ allR (n - 1) s, lastR n r ∈ allR n (s + 1) := fun r hr' => lastR_all hn (by omega) (by omega) hr'
  have hall : ∀ g ∈ allF ((pickZ (allR (n - 1) s) c).map (lastR n)), g ∈ allR n s := fun g hg => by
    obtain ⟨q, hq, hf⟩ := List.mem_flatMap.mp hg
    obtain ⟨r, hr', rfl⟩ := List.mem_map.mp hq
    exact allR_face hn (by omega) (hup r ((pickZ_sub _ _).subset hr')) hf
  have hAl : (allR (n - 1) s).length ≤ 20 := allR_len (n - 1) (by omega) s (by omega)
  have hlenF : ∀ l : List (List Int), l.Sublist (allR (n - 1) s) → (allF (l.map (lastR n))).length ≤ 140 := fun l hl => by
    rw [allF_len (d := s + 1)]
    · rw [List.length_map]
      exact Nat.mul_le_mul (Nat.le_trans hl.length_le hAl) (show s + 1 ≤ 7 by omega)
    · intro q hq
      obtain ⟨r, hr', rfl⟩ := List.mem_map.mp hq
      exact (roomOk hn (by omega) (hup r (hl.subset hr'))).len
  refine ⟨_, (pss_cons (ps_set (i := 3) scLawEvenRooms.nd rfl (.inr rfl) pe_dnewT)
      (pss_cons (ps_for PassesOwn.never (by rfl) (pi_list (pe_cd D_law_rooms (hr.mono (by omega)) (by rfl) pass0 (pa_cons (pe_tupRg rfl (by rfl) B.tuple (prg_1 (by rfl) B.range (pe_op op_sub (pv 0) pe_int))) (pa_cons (pv 1) pa_nil)))) (pg_name (i := 4) scLawEvenRooms.nd rfl (.inl rfl))
       (pss_cons (ps_if (pt_cmpR op_eq (pe_op op_modN (pe_callTy cr_int (by rfl) B.int (by decide +kernel) (pa_cons (pv 2) pa_nil)) pe_int) pe_int (nomark _)) (pss_cons (ps_set (i := 5) scLawEvenRooms.nd rfl (.inl rfl) (pe_op (kCatT K) (pv 4) (pe_tup (pa_cons (pe_op op_sub (pv 0) pe_int) pa_nil))))
        (pss_one (ps_for PassesOwn.never (by rfl) (pi_range1 (by rfl) B.range (pa_cons (pe_op op_add (pv 1) pe_int) pa_nil)) (pg_name (i := 6) scLawEvenRooms.nd rfl (.inl rfl))
         (pss_cons (ps_set (i := 7) scLawEvenRooms.nd rfl (.inl rfl) (pe_op (kCatT K) (pe_slice (kSlT K) (pv 5) po_none (po_some (pv 6))) (pe_slice (kSlT K) (pv 5) (po_some (pe_op op_add (pv 6) pe_int)) po_none)))
         (pss_one (ps_dput (hu_of hr) (pv 3) (pv 7) (pe_op op_sub pe_int (pe_dget2 (hu_of hr) (pv 3) (pv 7) pe_int ⟨rfl, rfl, rfl, rfl⟩)) rfl)))))) pss_nil)
       (pss_one (ps_set (i := 2) scLawEvenRooms.nd rfl (.inl rfl) (pe_op op_fdivN (pv 2) pe_int)))))
      (pss_one (ps_ret (pe_callB NAX.cr_sortRL (by rfl) B.sorted (by decide +kernel) (pa_cons (pe_lock (pe_lc (own := [("_law_room", 4)]) (g := gName 4) (by rfl) scLawEvenRooms.nd (pi_keys (pv 3)) (blkOk_by (own := [("_law_room", 4)]) (N := nLawEvenRooms) (sc := defScope sLawEvenRooms) (by decide +kernel)) (fun _ _ _ _ _ => (pg_name (i := 4) scLawEvenRooms.nd rfl (.inl rfl))) (fun _ _ _ _ _ => (pts_one (pt_cmpR op_eq (pe_dget (hu_of hr) (pv 3) (pv 4) (fun _ _ => rfl)) pe_int (nomark _)))) (fun _ _ _ _ _ => (pv 4)))) pa_nil)))))), fun S0 H0 => ?_⟩
  refine sv_seq (sv_dnew ?_)
  refine sv_seq (sv_forL (ds := (allR (n - 1) s).map room) (fun i Γ => ∃ s4 s5 s6 s7, Γ = [.val (.int (n : Int)), .val (.int (s : Int)), .val (.int (shZ c i)), .md (kD (tog (allF ((pickZ ((allR (n - 1) s).take i) c).map (lastR n))))), s4, s5, s6, s7])
    (ev_call0 (ea_cons (ev_is (ev_tupRg (n := (n : Int) - 1) (ev_op (ev_var rfl) ev_int rv_I0) (by omega) (by omega)) (d := room (upI (n - 1))) ?_) (ea_cons (ev_var rfl) ea_nil)) ⟨upI (n - 1), s, rfl, by rw [upI_len]; omega, by omega, by omega, rfl⟩) ⟨_, _, _, _, rfl⟩ (fun i d Γ1 hd hI => ?_) (fun Γ1 hI => ?_))
  · have : ((n : Int) - 1).toNat = n - 1 := by omega
    rw [this, upTo_eq]
  · obtain ⟨s4, s5, s6, s7, rfl⟩ := hI
    obtain ⟨r, hr', rfl⟩ := at_map hd
    have hi := (List.getElem?_eq_some_iff.mp hr').1
    have hmem := List.mem_of_getElem? hr'
    have rl := (roomOk (n := n - 1) (by omega) (by omega) hmem).len
    have htl : ((allR (n - 1) s).take i).length = i := by rw [List.length_take]; omega
    have e2 : pickZ ((allR (n - 1) s).take (i + 1)) c = pickZ ((allR (n - 1) s).take i) c ++ (if (shZ c i).fmod 2 = 1 then [r] else []) := by
      rw [take_snoc hr', pickZ_snoc, htl]
    have hsubl := (pickZ_sub ((allR (n - 1) s).take (i + 1)) c).trans (List.take_sublist _ _)
    have hle := hlenF _ hsubl
    rw [e2] at hle
    generalize pickZ ((allR (n - 1) s).take i) c = q at e2 hle ⊢
    have e3 : shZ c (i + 1) = (shZ c i).fdiv 2 := rfl
    generalize shZ c i = cc at e2 e3 hle ⊢
    refine step_name (sv_seq (sv_if (et_test (ev_op (ev_op (ev_cb (ea_cons (ev_var rfl) ea_nil) rc_int) ev_int (rv_I (by decide))) ev_int rv_eqI)) (fun z => ?_) (fun z => sv_next ?_)))
    · have hz : cc.fmod 2 = 1 := of_decide_eq_true z
      rw [if_pos hz] at e2 hle
      have wl : (lastR n r).length = s + 1 := by unfold lastR; rw [List.length_append, rl]; rfl
      have ef : allF ((q ++ [r]).map (lastR n)) = allF (q.map (lastR n)) ++ facesF (lastR n r) := by rw [List.map_append]; unfold allF; rw [List.flatMap_append]; simp
      rw [ef] at hle
      refine sv_seq (sv_asg (d := room (lastR n r)) (ev_is (ev_op (ev_var rfl) (ev_tup (ea_cons (ev_op (ev_var rfl) ev_int rv_I0) ea_nil) (by simp)) (rv_catT (by simp; omega))) ?_) ?_)
      · show D.tup _ = D.tup _
        unfold lastR; rw [List.map_append]; rfl
      have hfl : (facesF (lastR n r)).length = s + 1 := by unfold facesF; rw [List.length_map, List.length_range, wl]
      refine sv_forR (n := (s : Int) + 1) (fun j Γ => ∃ s6 s7, j ≤ s + 1 ∧ Γ = [.val (.int (n : Int)), .val (.int (s : Int)), .val (.int cc), .md (kD (tog (allF (q.map (lastR n)) ++ (facesF (lastR n r)).take j))), .val (room r), .val (room (lastR n r)), s6, s7]) (ea_cons (ev_op (ev_var rfl) ev_int rv_I0) ea_nil) (by omega) ⟨s6, s7, Nat.zero_le _, by rw [List.take_zero, List.append_nil]; rfl⟩ (fun j Γ1 hj hI => ?_) (fun Γ1 hI => ?_)
      · obtain ⟨s6, s7, _, rfl⟩ := hI
        have hj' : j < (lastR n r).length := by omega
        have hf : (facesF (lastR n r))[j]? = some ((lastR n r).eraseIdx j) := by unfold facesF; simp [hj']
        have hlt : (tog (allF (q.map (lastR n)) ++ (facesF (lastR n r)).take j)).length < 1000 := by
          have h1 := (tog_tal (allF (q.map (lastR n)) ++ (facesF (lastR n r)).take j)).len
          rw [List.length_append] at hle
          rw [List.length_append, List.length_take] at h1
          omega
        generalize lastR n r = wr at *
        refine step_name (sv_seq (sv_asg (d := room (wr.eraseIdx j)) (ev_is (ev_op (ev_slT (ev_var rfl) eo_none (eo_some (ev_var rfl))) (ev_slT (ev_var rfl) (eo_some (ev_op (ev_var rfl) ev_int rv_I0)) eo_none) (rv_catT ?_)) ?_) ?_))
        · rw [cut_take wr j (by omega), cut_drop wr _ (j + 1) (by omega) (by omega)]; simp; omega
        · show D.tup _ = D.tup _
          rw [cut_take wr j (by omega), cut_drop wr _ (j + 1) (by omega) (by omega), erase_eq]
        refine sv_put rfl (ev_op ev_int (ev_get2 rfl (ev_var rfl) ev_int) rv_I0) (ev_var rfl) hlt ⟨.val (.int (j : Int)), .val (room (wr.eraseIdx j)), by omega, ?_⟩
        rw [take_snoc hf, ← List.append_assoc, tog_snoc]; rfl
      · obtain ⟨s6, s7, _, rfl⟩ := hI
        have : ((s : Int) + 1).toNat = s + 1 := by omega
        rw [this, ← hfl, List.take_length, ← ef]
        refine sv_asg (ev_op (ev_var rfl) ev_int (rv_I ⟨by decide, by decide⟩)) ⟨.val (room r), .val (room (lastR n r)), s6, s7, ?_⟩
        rw [e2, e3]; rfl
    · have hz : ¬ cc.fmod 2 = 1 := of_decide_eq_false z
      rw [if_neg hz, List.append_nil] at e2
      refine sv_asg (ev_op (ev_var rfl) ev_int (rv_I ⟨by decide, by decide⟩)) ⟨.val (room r), s5, s6, s7, ?_⟩
      rw [e2, e3]; rfl
  · obtain ⟨s4, s5, s6, s7, rfl⟩ := hI
    rw [List.length_map, List.take_length]
    exact sv_ret (ev_togs (i := 3) (j := 4) rfl hn (show s < 8 by omega) hall rfl (by decide) (by show 4 < 8; decide)) rfl
end
end NA

set_option Elab.async false
set_option linter.all false
set_option maxRecDepth 100000
set_option maxHeartbeats 4000000
set_option autoImplicit false
/-! several except clauses, each with «as n»: what HandS.TryMany says of clauses without a name and HandS.Exc of one with a name, joined -/
namespace NXT
open PySem PySem.Spec PyProof.Rows L2
def wManyA (K : PySem.W.Frag) (Wout : WX) (D : Ends) : List (Value × Nat × (Addr → Value → Option Addr → TS)) → WX
  | [] => Wout
  | (c, i, ts) :: r => fun cls d σ H => ∃ b, PySem.W.exmOne K cls c = some b ∧ (b = true → ∀ a, H a = none → ts a cls d { nx := fun σ' H' => D.nx (σ'.set i none) H', rt := D.rt, bk := fun σ' H' => D.bk (σ'.set i none) H', ct := fun σ' H' => D.ct (σ'.set i none) H' } (σ.set i (some (.ref a))) H) ∧
    (b = false → wManyA K Wout D r cls d σ H)
inductive HdsA (X : Cx) : List ExceptHandler → List (Value × Nat × (Addr → Value → Option Addr → TS)) → Prop
  | nil : HdsA X [] []
  | cons {x n : Str} {i : Nat} {c : Value} {ts : Addr → Value → Option Addr → TS} {b₀ : Stmt} {suite : List Stmt} {np pos' : Pos} {hds : List ExceptHandler} {l : List (Value × Nat × (Addr → Value → Option Addr → TS))} (hc : Names X x c) (hi : X.N[i]? = some n) (hln : X.env.kindOf n = some .local)
      (hsu : ∀ (a : Addr) (oe : Obj) (cls : Value) (d : Option Addr) (pn : List (Addr × Obj)), Zc cls d oe → (∃ vs, oe.data = .fields vs) → PSs (X.suite a ((a, oe) :: pn)) (b₀ :: suite) (ts a cls d)) (r : HdsA X hds l) :
      HdsA X (.ExceptHandler (some (.Name x np)) (some n) (b₀ :: suite) pos' :: hds) ((c, i, ts) :: l)
section
variable {X : Cx} {body : List Stmt} {h₀ : ExceptHandler} {hds : List ExceptHandler} {l : List (Value × Nat × (Addr → Value → Option Addr → TS))} {pos : Pos} {tb : WX → TS} {Wout : WX}
theorem ps_try_manyA (hN : X.N.Nodup) (hs : X.stack = X.env :: X.outer) (hf : X.env.frame = some X.env.locals) (tk : Takes X Wout)
    (hb : ∀ (W : WX) (pn : List (Addr × Obj)) (xe : Value → Shared → Prop), Takes (X.tr pn xe) W → PassesOwn (model X.prog X.w) X.A X.env xe → PSs (X.tr pn xe) body (tb W))
    (hh : HdsA X (h₀ :: hds) l) : PS X (.Try body (h₀ :: hds) [] [] pos) (fun D σ H => tb (wManyA X.K Wout D l) D σ H) := by
  refine ⟨fun pins s σ H D I h => ?_⟩
  have ok := I.ok
  have hfr : X.A.frames = some (X.env :: X.outer) := by rw [ok.frames, hs]
  refine wpAny_Try_except ?_
  refine wpAny_mono ((hb (wManyA X.K Wout D l) (X.pn ++ pins) (fun e s₁ => wpAny (model X.prog X.w) X.A (noteFrame e X.env) (fun _ s₂ => wpAny (model X.prog X.w) X.A (setFlight e none) (fun _ s₃ =>
    wpAny (model X.prog X.w) X.A (handleBy e X.env (h₀ :: hds)) (SP X pins D) X.xe s₃) X.xe s₂) X.xe s₁) (fun u s' xx => ?_) PassesOwn.looking).run [] s σ H D (I.toTry _) h) (fun f s1 hsp => ?_) (fun e s1 he => he)
  · -- the catch
    obtain ⟨a, B, sI, pins', σ', H', cls, d, rfl, J', nb, up, sky, na, os, ag, w⟩ := xx
    have J : Inv X pins σ' H' sI := J'.ofTry ok
    have sky' : Sky B (X.env :: X.outer) a (Zc cls d) X.env.locals s'.heap := by rw [← hs]; exact sky
    show wpAny (model X.prog X.w) X.A (noteFrame (.ref a) X.env) _ _ _
    refine Sky.land Zc.steady hfr hf sky' fun h3 fl3 up3 => ?_
    have J3 : Inv X pins σ' H' { s' with heap := h3 } := J.landed nb fl3.1 (up.trans up3) os ag
    obtain ⟨oe3, vs3, he3, hz3, hd3⟩ := fl3.there
    have notFr : ∀ {h : Heap} {o : Obj} {vs : Array Value}, h.FunFrames B (X.env :: X.outer) → h.get? a = some o → o.data = .fields vs → a ∉ frs (X.env :: X.outer) := fun {h o vs} ff e dd hm => by
      obtain ⟨_, o', e', hnf⟩ := ff.mem hm
      rw [e] at e'; cases e'
      exact hnf _ dd
    have nfr := notFr fl3.2.2.1 he3 hd3
    have nL : a ≠ X.env.locals := fun z => nfr (List.mem_filterMap.mpr ⟨X.env, List.mem_cons_self, by rw [hf, z]⟩)
    have nF : a ∉ X.fs := fun hm => by
      obtain ⟨e, he, q⟩ := List.mem_filterMap.mp hm
      exact nfr (List.mem_filterMap.mpr ⟨e, List.mem_cons_of_mem _ he, q⟩)
    have S3 := J3.suite he3 hd3 na nL nF
    have go : ∀ {hds' : List ExceptHandler} {l' : List (Value × Nat × (Addr → Value → Option Addr → TS))}, HdsA X hds' l' → wManyA X.K Wout D l' cls d σ' H' →
        wpAny (model X.prog X.w) X.A (handleBy (.ref a) X.env hds') (SP X pins D) X.xe { s' with heap := h3 } := by
      intro hds' l' hk
      induction hk with
      | nil =>
        intro w
        refine wpAny_handleBy_nil ?_
        obtain ⟨k1, k2, k3, oe, vs, T, oT, ts', he, hz, hd, h1, hr⟩ := id fl3
        unfold PySem.passOn
        refine wpAny_bind (wpAny_field he hd h1 ?_)
        rw [if_neg (show ¬ ((Value.ref T == Value.none) = true) from by simp)]
        have fin : wpAny (model X.prog X.w) X.A (setFlight (.ref a) X.env.frame) (fun _ s4 => wpAny (model X.prog X.w) X.A (throw (.ref a) : Sem Flow) (SP X pins D) X.xe s4) X.xe { s' with heap := h3 } := by
          rw [hf]
          refine HandSPX.setFlight_upZ fl3 fun h4 hh4 up4 => wpAny_throw (tk _ _ ?_)
          exact ⟨a, B, sI, pins, σ', H', cls, d, rfl, J, nb, (up.trans up3).trans up4, .inr (.inr (by rw [hs]; exact hh4)), na, os, ag, w⟩
        first
          | exact wpAny_bind (wpAny_pure (wpAny_bind fin))
          | exact wpAny_bind fin
      | @cons x n i c ts b₀ suite np pos' hds2 l2 hc hi hln hsu r ih =>
        intro w
        have hloc : Loc X.env.scope n := .inl hln
        obtain ⟨b, hb1, hyes, hno⟩ := w
        refine wpAny_handleBy_cons (codeAny_handlers_test ?_) (by intro q; cases q)
        have LT : PySem.W.Looks (model X.prog X.w) h3 (typeOf (.ref a)) cls := fun A Q E s k q => wpAny_typeOf_ref (k _ _ he3) (by rw [hz3.1]; exact q)
        have LM := PySem.W.exm_one (M := model X.prog X.w) (J3.kIn) LT hb1
        have test : ∀ {Q : Value → Shared → Prop} {E : Value → Shared → Prop}, Q c { s' with heap := h3 } → wpAny (model X.prog X.w) (X.A.mark (some (.ref a))) (eval (.Name x np) X.env) Q E { s' with heap := h3 } := fun {Q E} q => by
          obtain ⟨hg, hdbg, hm | ⟨hm, hv, hnn⟩⟩ := hc
          · exact ld_glob (X := X.suite a ((a, oe3) :: (X.pn ++ pins))) S3 hg hm q hdbg
          · exact ld_blt (X := X.suite a ((a, oe3) :: (X.pn ++ pins))) S3 hg hm hv q hnn hdbg
        refine test (LM.here ?_)
        cases b with
        | true =>
          refine codeAny_handlers_suite_as ?_
          refine HandSPX.lands_againZ fl3 fun h4 fl4 up4 => ?_
          have J4 : Inv X pins σ' H' { s' with heap := h4 } := J.landed nb fl4.1 ((up.trans up3).trans up4) os ag
          obtain ⟨oe4, vs4, he4, hz4, hd4⟩ := fl4.there
          have S4 := J4.suite he4 hd4 na nL nF
          refine store_ok (X := X.suite a ((a, oe4) :: (X.pn ++ pins))) (v := .ref a) S4 hN hi hloc rfl (fun s5 S5 => ?_) (.inr hln)
          refine wpAny_mono ((hsu a oe4 cls d (X.pn ++ pins) hz4 ⟨_, hd4⟩).run [] s5 _ H' _ S5 (hyes rfl a na)) (fun f s6 hsp => ?_) (fun _ _ z => False.elim z)
          have end_ : ∀ {σ6 : L2.St} {H6 : Hp} {Q : Shared → Prop}, Inv (X.suite a ((a, oe4) :: (X.pn ++ pins))) [] σ6 H6 s6 → (∀ s7, Inv X pins (σ6.set i none) H6 s7 → Q s7) →
              wpAny (model X.prog X.w) X.A (do bindName X.env n .none; unbindBehindTheSuite X.env n pos') (fun _ s7 => Q s7) X.xe s6 := fun {σ6 H6 Q} S6 hq => gone_ok (S6.unsuite ok) hN hi hln hq
          cases f with
          | next =>
            obtain ⟨σ6, H6, S6, q6⟩ := hsp
            exact end_ S6 fun s7 J7 => ⟨_, _, J7, q6⟩
          | brk =>
            obtain ⟨σ6, H6, S6, q6⟩ := hsp
            exact end_ S6 fun s7 J7 => ⟨_, _, J7, q6⟩
          | cont =>
            obtain ⟨σ6, H6, S6, q6⟩ := hsp
            exact end_ S6 fun s7 J7 => ⟨_, _, J7, q6⟩
          | ret u =>
            obtain ⟨v6, σ6, H6, S6, r6, q6⟩ := hsp
            exact end_ S6 fun s7 J7 => ⟨_, _, _, J7, r6, q6⟩
        | false =>
          show wpAny _ X.A (handleBy (.ref a) X.env hds2) _ _ _
          exact ih (hno rfl)
    exact go hh w
  · cases f with
    | next =>
      obtain ⟨σ', H', J', q⟩ := hsp
      exact wpAny_execs_nil ⟨σ', H', J'.ofTry ok, q⟩
    | brk =>
      obtain ⟨σ', H', J', q⟩ := hsp
      exact ⟨σ', H', J'.ofTry ok, q⟩
    | cont =>
      obtain ⟨σ', H', J', q⟩ := hsp
      exact ⟨σ', H', J'.ofTry ok, q⟩
    | ret u =>
      obtain ⟨v, σ', H', J', r, q⟩ := hsp
      exact ⟨v, σ', H', J'.ofTry ok, r, q⟩
end
end NXT

set_option Elab.async false
set_option linter.all false
set_option maxRecDepth 100000
set_option maxHeartbeats 4000000
set_option autoImplicit false
/-! isinstance of a caught error that has its own dict (HandS.ExcIs: of one that has none) -/
namespace NXE
open PySem PySem.Spec PySem.Calls PyProof.Rows PySem.W
section
variable {prog : Program} {w : World} {A : Around} {E : Value → Shared → Prop} {s : Shared} {K : Frag} {x D : Addr} {ox od : Obj}
theorem kin_classD {Q : Option Value → Shared → Prop} (hga : findIn K (.ref D) "__getattribute__" = some (some (.builtin "BaseException.__getattribute__"))) (hgt : findIn K (.ref D) "__getattr__" = some none) (hsub : subIn K (.ref D) (.type "BaseException") = some true)
    (hdct : hasDictIn K D = true) (ha : findIn K (.ref D) "__class__" = some (some (.builtin "object.__class__")))
    (hn : specialIn K (.builtin "object.__class__") "__get__" = some (some (.builtin "getset_descriptor.__get__"))) (htk : takesIn K (.builtin "object.__class__") = some true) (hm : mroIn K D (.type "object") = some true)
    (X : K.In s.heap) (I : InstAt s.heap x ox D (some od)) (h : Q (some (.ref D)) { s with toks := s.toks + 1 }) : wpAny (model prog w) A (getAttr? (.ref x) "__class__") Q E s := by
  have hf : findObj K D (some od) "__class__" = some (.bind (.builtin "getset_descriptor.__get__") (.builtin "object.__class__")) := findObj_data (by obtain ⟨cd, hc, _⟩ := any_some hdct; rw [hc]; rfl) ha hn htk
  obtain ⟨hp, g, d, t, os⟩ := s
  have L0 := I.type (M := model prog w)
  have L1 := looks_findIn (M := model prog w) X hga
  have L2 := looks_findIn (M := model prog w) X hgt
  have L3 := looks_find (M := model prog w) X I hf
  have sub : Looks (model prog w) hp (isInstance (.ref x) (.type "BaseException")) true := L0.andThen (looks_subIn X hsub)
  have hx0 : (false && onTheHeap (Value.builtin "BaseException.__getattribute__")) = false := rfl
  have hx2 : (Value.builtin "BaseException.__getattribute__" == Value.builtin "object.__getattribute__") = false := by decide +kernel
  have hx1 : (onTheHeap (Value.ref D) && Value.builtin "BaseException.__getattribute__" == Value.builtin "object.__getattribute__") = false := by rw [hx2]; rfl
  unfold getAttr? getAttrBy? getAttrBy
  refine wpAny_bind (wpAny_mkText (wpAny_bind (wpAny_attempt (wpAny_holding (wpAny_bind (L0.at (wpAny_bind (L1.at ?_))))))))
  show wpAny _ _ (if (onTheHeap (Value.ref D) && Value.builtin "BaseException.__getattribute__" == Value.builtin "object.__getattribute__") = true then _ else _) _ _ _
  rw [hx1, if_neg Bool.false_ne_true]
  unfold getAttrByItsOwn hookBefore
  refine wpAny_bind ?_
  rw [if_pos (show onTheHeap (Value.ref D) = true from rfl)]
  refine L2.at ?_
  refine wpAny_bind (wpAny_attempt (wpAny_holding ?_))
  unfold callGetattribute
  rw [hx0, if_neg Bool.false_ne_true]
  unfold boundAndCalled
  rw [PySem.F.excAttr_ValueError.ga.bind (.ref x)]
  refine wpAny_bind (wpAny_pure ?_)
  show wpAny _ _ (call (.builtin "BaseException.__getattribute__") [.ref x, .str "__class__" t]) _ _ _
  refine wpAny_call (codeAny_call_builtin PySem.F.excAttr_ValueError.ga.plain PySem.F.entry_bexc_ga ?_)
  refine @check_slot (model prog w) _ _ ⟨hp, g, d, t + 1, os⟩ "BaseException.__getattribute__" "BaseException" "__getattribute__" (.ref x) [.str "__class__" t] [] _ (by decide +kernel) (by decide +kernel) sub (PySem.F.args_bexc_ga (.ref x) (.str "__class__" t)) ?_
  unfold Builtin.«object.__getattribute__»
  refine wpAny_bind (wpAny_of_eq (a := ((Value.ref x : Value), [Value.str "__class__" t])) (by first | rfl | (simp only [slotArgs]; rfl)) ?_)
  refine wpAny_bind (wpAny_pure (wpAny_bind (L0.at (wpAny_bind (L3.at ?_)))))
  show wpAny _ _ (holding [Value.builtin "object.__class__"] (call (.builtin "getset_descriptor.__get__") [.builtin "object.__class__", .ref x, .ref D]) >>= ret) _ _ _
  refine wpAny_bind (wpAny_holding (wpAny_call (class_get (s := ⟨hp, g, d, t + 1, os⟩) (ox := ox) (od := some od) X I hm ?_)))
  refine wpAny_pure ?_
  show wpAny _ _ (handedOut (.ref D)) _ _ _
  rw [handedOut_of (v := .ref D) rfl]
  first
    | exact wpAny_pure (wpAny_pure h)
    | exact wpAny_pure h
    | exact wpAny_pure (wpAny_bind (wpAny_pure (wpAny_pure h)))
theorem kitx_excD (hga : findIn K (.ref D) "__getattribute__" = some (some (.builtin "BaseException.__getattribute__"))) (hgt : findIn K (.ref D) "__getattr__" = some none) (hsub : subIn K (.ref D) (.type "BaseException") = some true) (hdct : hasDictIn K D = true) (ha : findIn K (.ref D) "__class__" = some (some (.builtin "object.__class__")))
    (hn : specialIn K (.builtin "object.__class__") "__get__" = some (some (.builtin "getset_descriptor.__get__"))) (htk : takesIn K (.builtin "object.__class__") = some true) (hm : mroIn K D (.type "object") = some true) :
    KitX K (.ref x) (.ref D) (fun h => InstAt h x ox D (some od)) where
  ty := fun _ _ _ I => I.type
  it := fun _ _ X _ => by
    obtain ⟨cdD, hcD, _⟩ := any_some hdct
    unfold clsIn at hcD
    split at hcD
    · rename_i c' d' cd' sl' ho
      intro A' Q' E' s' k q
      unfold isType loadHead
      exact wpAny_bind (wpAny_loadPart (k _ _ (X _ _ ho)) (wpAny_pure q))
    · cases hcD
  ne := fun h tp dd its n sl X htp => by
    obtain ⟨cdD, hcD, _⟩ := any_some hdct
    refine Bool.eq_false_iff.mpr fun q => ?_
    have e : D = tp := Value.ref.inj (beq_iff_eq.mp q)
    subst e
    unfold clsIn at hcD
    split at hcD
    · rename_i c' d' cd' sl' ho
      have z := (X _ _ ho).symm.trans htp
      cases z
    · cases hcD
  ca := fun X I k => kin_classD hga hgt hsub hdct ha hn htk hm X I k
end
end NXE
namespace NXE
open PySem PySem.Spec PyProof.Rows L2
theorem call_isD {X : Cx} {a D d : Addr} {oe : Obj} {pn : List (Addr × Obj)} (C : ExcC X.K D) (hz : Zc (.ref D) (some d) oe) (hf : ∃ vs, oe.data = .fields vs) : CallR (X.suite a ((a, oe) :: pn)) (.builtin "isinstance") (fun xs H Q => (∃ fs, H d = some (.xd fs)) ∧ rIsE X.K D a xs H Q) := by
  intro pins s σ H xs us Q I r h
  obtain ⟨⟨fs, hd⟩, c, cv, b, rfl, hcv, e, q⟩ := h
  cases r with
  | cons rx rr =>
    cases rr with
    | cons rt rr =>
      cases rr
      cases rx
      have ec := hcv _ rt
      subst ec
      obtain ⟨hget, _⟩ := I.pin (a, oe) (List.mem_append.mpr (.inl List.mem_cons_self))
      obtain ⟨vs, hv⟩ := hf
      have hx : ObjOk X.prog X.w H s.heap d (.xd fs) := I.hok d _ hd
      obtain ⟨mA, hns, hr⟩ := hx
      obtain ⟨od, ho, hl⟩ := lookIn_ns hns
      have J : PySem.W.InstAt s.heap a oe D (some od) := by
        obtain ⟨oc, odd, oda, osl⟩ := oe
        obtain ⟨h1, h2⟩ := hz
        dsimp only at h1 h2 hv
        subst h1 h2 hv
        exact ⟨hget, rfl, rfl, ho⟩
      exact PySem.W.kia_one (kitx_excD C.hg C.hk C.hs C.hd C.ha C.hn C.ht C.hm) I.kIn J e (fun z => nomatch z) fun tk => ⟨.bl b, H, I.kept (t' := tk) fun _ _ z => z, rfl, q⟩
end NXE
namespace NXE
open PySem PySem.Spec PyProof.Rows L2
theorem call_isX {X : Cx} {a D : Addr} {cls : Value} {d : Option Addr} {oe : Obj} {pn : List (Addr × Obj)} (C : ExcC X.K D) (hz : Zc cls d oe) (hf : ∃ vs, oe.data = .fields vs) : CallR (X.suite a ((a, oe) :: pn)) (.builtin "isinstance") (fun xs H Q => cls = .ref D ∧ (∃ dd fs, d = some dd ∧ H dd = some (.xd fs)) ∧ rIsE X.K D a xs H Q) := by
  intro pins s σ H xs us Q I r h
  obtain ⟨rfl, ⟨dd, fs, rfl, hd⟩, q⟩ := h
  exact call_isD C hz hf pins s σ H xs us Q I r ⟨⟨fs, hd⟩, q⟩
end NXE
namespace NA
open PySem PySem.Spec PyProof.Rows L2
theorem pe_cdS {X : Cx} {CX : CXT} {k : Nat} {x : Str} {ps : List Str} {sp : Sp} {E : L2.St → XK} {e : Expr} {es : List Expr} {t : TA} {p pos : Pos} (D : Def X.prog X.w X.K X.mg X.base CX k x ps sp) (hr : Room k X.A) (hg : Gl X x) (hx : ∀ σ, PassesAt CX X σ (E σ)) (ha : PA X (e :: es) t) (hdb : (x == ("__debug__" : Str)) = false := by decide)
    (he : starEach (e :: es) X.env = (false, eval e X.env) :: starEach es X.env := by rfl) (hpl : (backTo pos (starEach es X.env)).any (·.1) = false := by rfl) : PE X (.Call (.Name x p) (e :: es) [] pos) (tCallS sp E t) := by
  obtain ⟨f, fd, F, g, kp, b⟩ := D.ex
  exact pe_callS F hr hg g kp b hx ha hdb he hpl
end NA

set_option Elab.async false
set_option linter.all false
set_option maxRecDepth 100000
set_option maxHeartbeats 4000000
set_option autoImplicit false
namespace NA
open PySem PySem.Spec PyProof.Rows L2
abbrev sLawRefused : Stmt := topS 44
abbrev nLawRefused : List Str := ["_law_door", "_law_n", "_law_size", "_law_rooms_here", "_law_number_here", "_law_outside", "e"]
theorem scLawRefused : FnScope nLawRefused ["_law_door", "_law_n", "_law_size", "_law_rooms_here", "_law_number_here", "_law_outside"] (defScope sLawRefused) := ⟨rfl, rfl, rfl, by decide +kernel, rfl, by decide +kernel, by decide +kernel⟩
/-- the facts of the exception classes -/
structure Ex (P : Program) (K : PySem.W.Frag) (mg : Str → Option Value) (Cm Cn Ce fM fN : Addr) : Prop where
  TM : NE.ETxt P K mg "Mismatch" "Mismatch.__init__" NE.sMis Cm fM
  noM : PySem.W.findIn K (.ref Cm) "fault" = some none
  TN : NE.ETxt P K mg "NotEven" "NotEven.__init__" NE.sNev Cn fN
  noA : PySem.W.findIn K (.ref Cn) "at" = some none
  noF : PySem.W.findIn K (.ref Cn) "face" = some none
  gE : mg "NeverAloneError" = some (.ref Ce)
  XN : XfC K Cn
  XM : XfC K Cm
  EN : ExcC K Cn
  EM : ExcC K Cm
  nn : PySem.W.exmOne K (.ref Cn) (.ref Cn) = some true
  mn : PySem.W.exmOne K (.ref Cm) (.ref Cn) = some false
  mm : PySem.W.exmOne K (.ref Cm) (.ref Cm) = some true
  kN1 : PySem.W.kitOne K (.ref Cn) (.ref Ce) = some true
  kN2 : PySem.W.kitOne K (.ref Cn) (.ref Cm) = some false
  kM1 : PySem.W.kitOne K (.ref Cm) (.ref Ce) = some true
  kM2 : PySem.W.kitOne K (.ref Cm) (.ref Cn) = some false
def excD : XD → D
  | .mis f => .tup [.str f, .bl true]
  | .nev a r => .tup [.int a, room r, .bl true]
def rRefused : List D → D → Prop := fun ds d => ∃ (n s : Nat) (rs : List (List Int)) (door num out : Int), BOk n s rs ∧ ds = [.int door, .int (n : Int), .int (s : Int), rooms rs, .int num, .int out] ∧
  (((door = 0 ∨ door = 1) ∧ ∃ x, rFillX [bk n s rs, .int out] x ∧ d = excD x) ∨ (door = 2 ∧ ∃ x, rFilledX [.int (n : Int), .int (s : Int), .int out, rooms rs] x ∧ d = excD x) ∨
    (door = 3 ∧ ∃ x, rNBX [.int (n : Int), .int (s : Int), .int num, .int out] x ∧ d = excD x) ∨ (door = 3 ∧ (∃ d', rNB [.int (n : Int), .int (s : Int), .int num, .int out] d') ∧ d = .tup []))
section
variable {K : PySem.W.Frag} {C Cm Cn : Addr} {S S' H H' S0 H0 : Hp} {σ : L2.St} {Γ Γ' : List Sl} {E : AE} {te : TE} {d : D} {ds es : List D} {ta : TA} {x : XD} {t u : TS} {tA : TT} {W : WX} {b : Bool}
def RaS (K : PySem.W.Frag) (C Cm Cn : Addr) (S0 H0 : Hp) (W : WX) (x : XD) (t : TS) (Γ : List Sl) : Prop := ∀ (Dd : Ends) (σ : L2.St) (S H : Hp), Env K C S0 H0 S H σ Γ → (∀ S' H' cls dd, Env K C S0 H0 S' H' σ Γ → Same S S' → XIs K C Cm Cn S' H' cls dd x → W cls (some dd) σ H') → t Dd σ H
theorem ras_if (h : EvT K C tA Γ b) (h1 : b = true → RaS K C Cm Cn S0 H0 W x t Γ) (h2 : b = false → RaS K C Cm Cn S0 H0 W x u Γ) : RaS K C Cm Cn S0 H0 W x (tIfS tA t u) Γ := fun Dd σ S H e k =>
  h σ S H e.e _ fun S1 H1 g => by
    cases b with
    | true => exact h1 rfl Dd σ S1 H1 (e.grow g) fun S' H' cls dd e' s i => k S' H' cls dd e' (g.hs.trans s) i
    | false => exact h2 rfl Dd σ S1 H1 (e.grow g) fun S' H' cls dd e' s i => k S' H' cls dd e' (g.hs.trans s) i
theorem ras_drop {R : List D → D → Prop} {RX : List D → XD → Prop} (ha : EvA K C ta Γ ds) (h : RX ds x) : RaS K C Cm Cn S0 H0 W x (tDrop (tCallS (spX K C Cm Cn R RX) (WE W) ta)) Γ := fun Dd σ S H e k =>
  ha σ S H e.e _ fun vs S1 H1 g1 i1 => ⟨S1, ds, g1.le, i1, .inr ⟨x, h, fun S' H' cls dd g i => k S' H' cls dd (e.grow (g1.trans g)) (g1.hs.trans g.hs) i⟩⟩
theorem ev_callSX {R : List D → D → Prop} {RX : List D → XD → Prop} {X : L2.St → XK} (ha : EvA K C ta Γ ds) (h : R ds d) : EvE K C (tCallS (spX K C Cm Cn R RX) X ta) Γ d := fun σ S H E Q q =>
  ha σ S H E _ fun vs S1 H1 g1 i1 => ⟨S1, ds, g1.le, i1, .inl ⟨d, h, fun v S2 H2 g2 i2 => q v S2 H2 (g1.trans g2) i2⟩⟩
theorem sv_tryX {tb : WX → TS} {Wout : WX} {l : List (Value × Nat × (Addr → Value → Option Addr → TS))} (hb : ∀ W, RaS K C Cm Cn S0 H0 W x (tb W) Γ) (hs : ∀ Dd σ S H cls dd, Env K C S0 H0 S H σ Γ → EndsOk K C S0 H0 S E Dd → XIs K C Cm Cn S H cls dd x → NXT.wManyA K Wout Dd l cls (some dd) σ H) :
    SvE K C S0 H0 (fun D σ H => tb (NXT.wManyA K Wout D l) D σ H) Γ E := fun Dd σ S H e kk => hb _ Dd σ S H e fun S' H' cls dd e' s i => hs Dd σ S' H' cls dd e' (kk.mono s) i
theorem sv_try0 {tb : WX → TS} {Wout : WX} {l : List (Value × Nat × (Addr → Value → Option Addr → TS))} (hb : ∀ W, SvE K C S0 H0 (tb W) Γ E) : SvE K C S0 H0 (fun D σ H => tb (NXT.wManyA K Wout D l) D σ H) Γ E := fun Dd σ S H e kk => hb _ Dd σ S H e kk
end
/-- the body of its try -/
def tbRef (K : PySem.W.Frag) (C Cm Cn : Addr) (W : WX) : TS :=
  tIfS (tTest (tOp rEq (tVar 0) (tC (.int 0)))) (tDrop (tCallS (spX K C Cm Cn rFill rFillX) (WE W) (tCons (tMake C (spI K C rInit) [] E0 (tCons (tVar 1) (tCons (tVar 2) (tCons (tVar 3) tNil)))) (tCons (tVar 5) tNil))))
    (tIfS (tTest (tOp rEq (tVar 0) (tC (.int 1)))) (tDrop (tCallS (spX K C Cm Cn rNum rFillX) (WE W) (tCons (tMake C (spI K C rInit) [] E0 (tCons (tVar 1) (tCons (tVar 2) (tCons (tVar 3) tNil)))) (tCons (tVar 5) tNil))))
      (tIfS (tTest (tOp rEq (tVar 0) (tC (.int 2)))) (tDrop (tCallS (spX K C Cm Cn rFilled rFilledX) (WE W) (tCons (tVar 1) (tCons (tVar 2) (tCons (tVar 5) (tCons (tVar 3) tNil))))))
        (tDrop (tCallS (spX K C Cm Cn rNB rNBX) (WE W) (tCons (tVar 1) (tCons (tVar 2) (tCons (tVar 4) (tCons (tVar 5) tNil))))))))
section
variable {P : Program} {w : World} {K : PySem.W.Frag} {mg : Str → Option Value} {base : Heap} {C Cm Cn Ce fM fN : Addr}
theorem ok_law_refused {k : Nat} {f : Addr} {fd : FuncData} (F : Fun K "_law_refused" "_law_refused" sLawRefused f fd) (B : Bl mg) (ex : Ex P K mg Cm Cn Ce fM fN) (KB : KDef P w K mg base CX0 k C "Book" ["self", "places", "size", "rooms"] (spI K C rInit))
    (D_filling : Def P w K mg base (L2.CX P w) k "filling" ["book", "apex"] (spX K C Cm Cn rFill rFillX)) (D_book_number : Def P w K mg base (L2.CX P w) k "book_number" ["book", "apex"] (spX K C Cm Cn rNum rFillX))
    (D_filled : Def P w K mg base (L2.CX P w) k "filled" ["places", "size", "apex", "rooms"] (spX K C Cm Cn rFilled rFilledX)) (D_numbered_book : Def P w K mg base (L2.CX P w) k "numbered_book" ["places", "size", "number", "apex"] (spX K C Cm Cn rNB rNBX)) :
    FnOk P w K mg base CX0 (k + 2) f fd ["_law_door", "_law_n", "_law_size", "_law_rooms_here", "_law_number_here", "_law_outside"] (spR K C rRefused) := by
  refine fn_ev F scLawRefused (fun ds d h => by obtain ⟨n, s, rs, door, num, out, _, rfl, _⟩ := h; rfl) (fun ds d h cdv A outer st H E hr => ?_)
  obtain ⟨n, s, rs, door, num, out, ok, rfl, h⟩ := h
  obtain ⟨TM, noM, TN, noA, noF, gE, XN, XM, EN, EM, nn, mn, mm, kN1, kN2, kM1, kM2⟩ := ex
  refine ⟨_, (pss_cons (NXT.ps_try_manyA scLawRefused.nd rfl rfl takes0 (fun W pn xe tk _ => (pss_one (ps_if (pt_cmpR op_eq (pv 0) pe_int (nomark _)) (pss_one (ps_expr (pe_cdS D_filling (hr.mono (by omega)) (by rfl) (fun σ => passAt tk σ) (pa_cons (pe_kd KB (hr.mono (by omega)) (by rfl) pass0 (pa_cons (pv 1) (pa_cons (pv 2) (pa_cons (pv 3) pa_nil)))) (pa_cons (pv 5) pa_nil))))) (pss_one (ps_if (pt_cmpR op_eq (pv 0) pe_int (nomark _)) (pss_one (ps_expr (pe_cdS D_book_number (hr.mono (by omega)) (by rfl) (fun σ => passAt tk σ) (pa_cons (pe_kd KB (hr.mono (by omega)) (by rfl) pass0 (pa_cons (pv 1) (pa_cons (pv 2) (pa_cons (pv 3) pa_nil)))) (pa_cons (pv 5) pa_nil))))) (pss_one (ps_if (pt_cmpR op_eq (pv 0) pe_int (nomark _)) (pss_one (ps_expr (pe_cdS D_filled (hr.mono (by omega)) (by rfl) (fun σ => passAt tk σ) (pa_cons (pv 1) (pa_cons (pv 2) (pa_cons (pv 5) (pa_cons (pv 3) pa_nil))))))) (pss_one (ps_expr (pe_cdS D_numbered_book (hr.mono (by omega)) (by rfl) (fun σ => passAt tk σ) (pa_cons (pv 1) (pa_cons (pv 2) (pa_cons (pv 4) (pa_cons (pv 5) pa_nil))))))))))))))
       (.cons ⟨rfl, by decide, .inl TN.gC⟩ (i := 6) rfl rfl (fun a oe cls d pn hz hf => (pss_one (ps_ret (pe_tup (pa_cons (pe_xf XN noA hz hf (pv 6)) (pa_cons (pe_xf XN noF hz hf (pv 6)) (pa_cons (pe_and (pe_callB (NXE.call_isX EN hz hf) (by rfl) B.isinstance (by decide +kernel) (pa_cons (pv 6) (pa_cons (pe_glob (v := .ref Ce) (by rfl) gE rfl) pa_nil))) (pe_one (pe_not (pe_callB (NXE.call_isX EN hz hf) (by rfl) B.isinstance (by decide +kernel) (pa_cons (pv 6) (pa_cons (pe_glob (v := .ref Cm) (by rfl) TM.gC rfl) pa_nil)))))) pa_nil)))))))
       (.cons ⟨rfl, by decide, .inl TM.gC⟩ (i := 6) rfl rfl (fun a oe cls d pn hz hf => (pss_one (ps_ret (pe_tup (pa_cons (pe_xf XM noM hz hf (pv 6)) (pa_cons (pe_and (pe_callB (NXE.call_isX EM hz hf) (by rfl) B.isinstance (by decide +kernel) (pa_cons (pv 6) (pa_cons (pe_glob (v := .ref Ce) (by rfl) gE rfl) pa_nil))) (pe_one (pe_not (pe_callB (NXE.call_isX EM hz hf) (by rfl) B.isinstance (by decide +kernel) (pa_cons (pv 6) (pa_cons (pe_glob (v := .ref Cn) (by rfl) TN.gC rfl) pa_nil)))))) pa_nil))))))
       .nil)))
      (pss_one (ps_ret (pe_tup pa_nil)))), fun S0 H0 => ?_⟩
  have hsuite : ∀ (x : XD) (Dd : Ends) (σ : L2.St) (S H : Hp) (cls : Value) (dd : Addr) (d : D) (nx : List Sl → Prop), d = excD x → Env K C S0 H0 S H σ (Γ0 nLawRefused [.int door, .int (n : Int), .int (s : Int), rooms rs, .int num, .int out]) → EndsOk K C S0 H0 S { rt := fun d' => d' = d, nx := nx } Dd → XIs K C Cm Cn S H cls dd x →
      NXT.wManyA K (fun _ _ _ _ => False) Dd
        [(.ref Cn, 6, fun a cls d => tRet (tTup (tCons (tXf a cls d Cn "at" (tVar 6)) (tCons (tXf a cls d Cn "face" (tVar 6)) (tCons (tAndV (tCB (fun xs H Q => cls = .ref Cn ∧ (∃ dd fs, d = some dd ∧ H dd = some (.xd fs)) ∧ rIsE K Cn a xs H Q) (tCons (tVar 6) (tCons (tC (.ref Ce)) tNil))) (tNotV (tCB (fun xs H Q => cls = .ref Cn ∧ (∃ dd fs, d = some dd ∧ H dd = some (.xd fs)) ∧ rIsE K Cn a xs H Q) (tCons (tVar 6) (tCons (tC (.ref Cm)) tNil))))) tNil))))),
          (.ref Cm, 6, fun a cls d => tRet (tTup (tCons (tXf a cls d Cm "fault" (tVar 6)) (tCons (tAndV (tCB (fun xs H Q => cls = .ref Cm ∧ (∃ dd fs, d = some dd ∧ H dd = some (.xd fs)) ∧ rIsE K Cm a xs H Q) (tCons (tVar 6) (tCons (tC (.ref Ce)) tNil))) (tNotV (tCB (fun xs H Q => cls = .ref Cm ∧ (∃ dd fs, d = some dd ∧ H dd = some (.xd fs)) ∧ rIsE K Cm a xs H Q) (tCons (tVar 6) (tCons (tC (.ref Cn)) tNil))))) tNil))))] cls (some dd) σ H := by
    intro x Dd σ S H cls dd d nx hd e kk i
    have hlen : 6 < σ.length := by rw [e.e.len]; show 6 < 7; decide
    have h6 : ∀ a : Addr, (σ.set 6 (some (V.ref a)))[6]? = some (some (.ref a)) := fun a => by rw [List.getElem?_set, if_pos rfl, if_pos hlen]
    cases i with
    | mis f hx =>
      refine ⟨false, mn, (fun z => nomatch z), fun _ => ⟨true, mm, fun _ a _ => ?_, (fun z => nomatch z)⟩⟩
      refine ⟨.ref a, h6 a, rfl, rfl, dd, _, .str f, rfl, hx, by simp [List.lookup], ?_⟩
      refine ⟨.ref a, h6 a, rfl, ⟨dd, _, rfl, hx⟩, .ref Ce, .ref Ce, true, rfl, fun u z => z, kM1, true, rfl, ?_⟩
      refine iteT ⟨.ref a, h6 a, rfl, ⟨dd, _, rfl, hx⟩, .ref Cn, .ref Cn, false, rfl, fun u z => z, kM2, false, rfl, ?_⟩
      refine ⟨by show 2 ≤ sizeLine; decide, fun p hp => ?_⟩
      refine kk.rt _ _ _ _ (e.g.trans (Grow.new e.e.le hp)) (.tup (ds := [.str f, .bl true]) upd_same (.cons (.str f) (.cons (.bl true) .nil)) (by simp)) hd.symm
    | @nev _ v a0 r hx iv =>
      refine ⟨true, nn, fun _ a _ => ?_, (fun z => nomatch z)⟩
      refine ⟨.ref a, h6 a, rfl, rfl, dd, _, .int a0, rfl, hx, by simp [List.lookup], ?_⟩
      refine ⟨.ref a, h6 a, rfl, rfl, dd, _, v, rfl, hx, ?_, ?_⟩
      · have h1 : (("face" : Str) == ("at" : Str)) = false := by decide
        simp [List.lookup, h1]
      refine ⟨.ref a, h6 a, rfl, ⟨dd, _, rfl, hx⟩, .ref Ce, .ref Ce, true, rfl, fun u z => z, kN1, true, rfl, ?_⟩
      refine iteT ⟨.ref a, h6 a, rfl, ⟨dd, _, rfl, hx⟩, .ref Cm, .ref Cm, false, rfl, fun u z => z, kN2, false, rfl, ?_⟩
      refine ⟨by show 3 ≤ sizeLine; decide, fun p hp => ?_⟩
      exact kk.rt _ _ _ _ (e.g.trans (Grow.new e.e.le hp)) (.tup (ds := [.int a0, room r, .bl true]) upd_same (.cons (.int a0) (.cons (iv.mono (same_upd (same_free e.e.le hp))) (.cons (.bl true) .nil))) (by simp)) hd.symm
  rcases h with ⟨hd, x, hx, hdx⟩ | ⟨rfl, x, hx, hdx⟩ | ⟨rfl, x, hx, hdx⟩ | ⟨rfl, ⟨d', hnb⟩, rfl⟩
  · refine sv_seq (sv_tryX (tb := tbRef K C Cm Cn) (x := x) (fun W => ?_) (fun Dd σ S H cls dd e kk i => hsuite x Dd σ S H cls dd d _ hdx e kk i))
    rcases hd with rfl | rfl
    · exact ras_if (et_test (ev_op (ev_var rfl) ev_int rv_eqI)) (fun _ => ras_drop (ea_cons (ev_make (ea_cons (ev_var rfl) (ea_cons (ev_var rfl) (ea_cons (ev_var rfl) ea_nil))) (mk_sub ok.n7 ok.s1 ok.sn ok.sub)) (ea_cons (ev_var rfl) ea_nil)) hx) (fun z => by simp at z)
    · exact ras_if (et_test (ev_op (ev_var rfl) ev_int rv_eqI)) (fun z => by simp at z) (fun _ => ras_if (et_test (ev_op (ev_var rfl) ev_int rv_eqI)) (fun _ => ras_drop (ea_cons (ev_make (ea_cons (ev_var rfl) (ea_cons (ev_var rfl) (ea_cons (ev_var rfl) ea_nil))) (mk_sub ok.n7 ok.s1 ok.sn ok.sub)) (ea_cons (ev_var rfl) ea_nil)) hx) (fun z => by simp at z))
  · refine sv_seq (sv_tryX (tb := tbRef K C Cm Cn) (x := x) (fun W => ?_) (fun Dd σ S H cls dd e kk i => hsuite x Dd σ S H cls dd d _ hdx e kk i))
    exact ras_if (et_test (ev_op (ev_var rfl) ev_int rv_eqI)) (fun z => by simp at z) (fun _ => ras_if (et_test (ev_op (ev_var rfl) ev_int rv_eqI)) (fun z => by simp at z) (fun _ => ras_if (et_test (ev_op (ev_var rfl) ev_int rv_eqI)) (fun _ => ras_drop (ea_cons (ev_var rfl) (ea_cons (ev_var rfl) (ea_cons (ev_var rfl) (ea_cons (ev_var rfl) ea_nil)))) hx) (fun z => by simp at z)))
  · refine sv_seq (sv_tryX (tb := tbRef K C Cm Cn) (x := x) (fun W => ?_) (fun Dd σ S H cls dd e kk i => hsuite x Dd σ S H cls dd d _ hdx e kk i))
    exact ras_if (et_test (ev_op (ev_var rfl) ev_int rv_eqI)) (fun z => by simp at z) (fun _ => ras_if (et_test (ev_op (ev_var rfl) ev_int rv_eqI)) (fun z => by simp at z) (fun _ => ras_if (et_test (ev_op (ev_var rfl) ev_int rv_eqI)) (fun z => by simp at z) (fun _ => ras_drop (ea_cons (ev_var rfl) (ea_cons (ev_var rfl) (ea_cons (ev_var rfl) (ea_cons (ev_var rfl) ea_nil)))) hx)))
  · refine sv_seq (sv_try0 (tb := tbRef K C Cm Cn) (fun W => ?_))
    refine sv_if (et_test (ev_op (ev_var rfl) ev_int rv_eqI)) (fun z => by simp at z) (fun _ => sv_if (et_test (ev_op (ev_var rfl) ev_int rv_eqI)) (fun z => by simp at z) (fun _ => sv_if (et_test (ev_op (ev_var rfl) ev_int rv_eqI)) (fun z => by simp at z) (fun _ => sv_drop (ev_callSX (ea_cons (ev_var rfl) (ea_cons (ev_var rfl) (ea_cons (ev_var rfl) (ea_cons (ev_var rfl) ea_nil)))) hnb) ?_)))
    exact sv_ret (ev_tup ea_nil (by simp)) rfl
end
end NA

set_option Elab.async false
set_option linter.all false
set_option maxRecDepth 100000
set_option maxHeartbeats 4000000
set_option autoImplicit false
namespace NA
open PySem PySem.Spec PyProof.Rows L2
abbrev sLawSame : Stmt := topS 36
abbrev nLawSame : List Str := ["_law_actual", "_law_due", "_law_k"]
theorem scLawSame : FnScope nLawSame ["_law_actual", "_law_due"] (defScope sLawSame) := ⟨rfl, rfl, rfl, by decide +kernel, rfl, by decide +kernel, by decide +kernel⟩
abbrev sLawIs : Stmt := topS 41
abbrev nLawIs : List Str := ["_law_book", "_law_n", "_law_size", "_law_rooms_here"]
theorem scLawIs : FnScope nLawIs ["_law_book", "_law_n", "_law_size", "_law_rooms_here"] (defScope sLawIs) := ⟨rfl, rfl, rfl, by decide +kernel, rfl, by decide +kernel, by decide +kernel⟩
/-- data that _law_same compares, of depth at most m -/
def D.sz : Nat → D → Bool
  | _, .bl _ => true
  | _, .int _ => true
  | _, .str _ => true
  | m + 1, .tup ds => decide (ds.length ≤ 1000) && ds.all (D.sz m)
  | m + 1, .lst ds => decide (ds.length ≤ 1000) && ds.all (D.sz m)
  | _, _ => false
theorem sz_int (m : Nat) (i : Int) : D.sz m (.int i) = true := by cases m <;> rfl
theorem sz_bl (m : Nat) (i : Bool) : D.sz m (.bl i) = true := by cases m <;> rfl
theorem sz_str (m : Nat) (i : Str) : D.sz m (.str i) = true := by cases m <;> rfl
theorem sz_tup {m : Nat} {ds : List D} (h : ds.length ≤ 1000) (h2 : ∀ d ∈ ds, D.sz m d = true) : D.sz (m + 1) (.tup ds) = true := by simp only [D.sz, Bool.and_eq_true, decide_eq_true_eq, List.all_eq_true]; exact ⟨h, h2⟩
theorem sz_lst {m : Nat} {ds : List D} (h : ds.length ≤ 1000) (h2 : ∀ d ∈ ds, D.sz m d = true) : D.sz (m + 1) (.lst ds) = true := by simp only [D.sz, Bool.and_eq_true, decide_eq_true_eq, List.all_eq_true]; exact ⟨h, h2⟩
theorem sz_room {m : Nat} {r : List Int} (h : r.length ≤ 1000) : D.sz (m + 1) (room r) = true := sz_tup (by simpa using h) fun d hd => by obtain ⟨i, _, rfl⟩ := List.mem_map.mp hd; exact sz_int m i
theorem sz_trooms {m : Nat} {rs : List (List Int)} (h : rs.length ≤ 1000) (h2 : ∀ r ∈ rs, r.length ≤ 1000) : D.sz (m + 2) (trooms rs) = true := sz_tup (by simpa using h) fun d hd => by obtain ⟨r, hr, rfl⟩ := List.mem_map.mp hd; exact sz_room (h2 r hr)
def rSame (m : Nat) : List D → D → Prop := fun ds d => ∃ x, D.sz m x = true ∧ ds = [x, x] ∧ d = .bl true
def rIs : List D → D → Prop := fun ds d => ∃ (n s : Nat) (rs : List (List Int)), BOk n s rs ∧ oddF n s rs = [] ∧ ds = [bk n s rs, .int (n : Int), .int (s : Int), rooms rs] ∧ d = .bl true
section
variable {P : Program} {w : World} {K : PySem.W.Frag} {mg : Str → Option Value} {base : Heap} {C : Addr}
theorem ok_law_same_step {k m : Nat} {R' : List D → D → Prop} {f : Addr} {fd : FuncData} (F : Fun K "_law_same" "_law_same" sLawSame f fd) (B : Bl mg) (D_law_same : Def P w K mg base CX0 k "_law_same" ["_law_actual", "_law_due"] (spR K C R'))
    (hR : ∀ m', m = m' + 1 → ∀ x, D.sz m' x = true → R' [x, x] (.bl true)) : FnOk P w K mg base CX0 (k + 1) f fd ["_law_actual", "_law_due"] (spR K C (rSame m)) := by
  refine fn_ev F scLawSame (fun ds d h => by obtain ⟨x, _, rfl, _⟩ := h; rfl) (fun ds d h cdv A outer st H E hr => ?_)
  obtain ⟨x, hx, rfl, rfl⟩ := h
  have notNone : ∀ {y : D}, D.sz m y = true → RvD K C (fun x y H Q => y = .non ∧ Q (.bl (decide (x = .non))) H) y .non (.bl false) := fun {y} hy S H v w e a b Q q => by
    have hw : w = .non := by cases b; rfl
    subst hw
    refine ⟨rfl, ?_⟩
    have : decide (v = V.non) = false := by
      cases a <;> first | rfl | (cases m <;> simp [D.sz] at hy)
    rw [this]; exact q _ S H (Grow.refl e) (.bl _)
  cases x with
  | bl b =>
    refine ⟨_, (pss_cons (ps_if (pt_cmpR op_isN (pv 1) pe_non (nomark _)) (pss_one ps_never) pss_nil) (pss_cons (ps_if (pt_val (pe_callB call_isi (by rfl) B.isinstance (by decide +kernel) (pa_cons (pv 1) (pa_cons (pe_bltn (v := .ty "bool") (by rfl) B.bool (by decide +kernel) rfl) pa_nil)))) (pss_one (ps_ret (pe_and (pe_callB call_isi (by rfl) B.isinstance (by decide +kernel) (pa_cons (pv 0) (pa_cons (pe_bltn (v := .ty "bool") (by rfl) B.bool (by decide +kernel) rfl) pa_nil))) (pe_one (pe_cmpR op_eq (pv 0) (pv 1) (nomark _)))))) pss_nil) pss_never)), fun S0 H0 => ?_⟩
    refine sv_seq (sv_if (et_test (ev_op (ev_var rfl) ev_non (notNone hx))) (fun z => by cases z) (fun _ => sv_next ?_))
    refine sv_seq (sv_if (et_B (ev_cb (ea_cons (ev_var rfl) (ea_cons ev_raw ea_nil)) (rc_isi (.bl b) (.ty "bool") (kit_ty (b := "bool") (r := true) (by decide +kernel))))) (fun _ => ?_) (fun z => by cases z))
    refine sv_ret (ev_is (ev_and (ev_cb (ea_cons (ev_var rfl) (ea_cons ev_raw ea_nil)) (rc_isi (.bl b) (.ty "bool") (kit_ty (b := "bool") (r := true) (by decide +kernel)))) (fun _ => ev_op (ev_var rfl) (ev_var rfl) rv_eqB)) ?_) rfl
    simp
  | int b =>
    refine ⟨_, (pss_cons (ps_if (pt_cmpR op_isN (pv 1) pe_non (nomark _)) (pss_one ps_never) pss_nil) (pss_cons (ps_if (pt_val (pe_callB call_isi (by rfl) B.isinstance (by decide +kernel) (pa_cons (pv 1) (pa_cons (pe_bltn (v := .ty "bool") (by rfl) B.bool (by decide +kernel) rfl) pa_nil)))) (pss_one ps_never) pss_nil) (pss_cons (ps_if (pt_val (pe_callB call_isi (by rfl) B.isinstance (by decide +kernel) (pa_cons (pv 1) (pa_cons (pe_bltn (v := .ty "int") (by rfl) B.int (by decide +kernel) rfl) pa_nil)))) (pss_one (ps_ret (pe_and (pe_callB call_isi (by rfl) B.isinstance (by decide +kernel) (pa_cons (pv 0) (pa_cons (pe_bltn (v := .ty "int") (by rfl) B.int (by decide +kernel) rfl) pa_nil))) (pe_and (pe_not (pe_callB call_isi (by rfl) B.isinstance (by decide +kernel) (pa_cons (pv 0) (pa_cons (pe_bltn (v := .ty "bool") (by rfl) B.bool (by decide +kernel) rfl) pa_nil)))) (pe_one (pe_cmpR op_eq (pv 0) (pv 1) (nomark _))))))) pss_nil) pss_never))), fun S0 H0 => ?_⟩
    refine sv_seq (sv_if (et_test (ev_op (ev_var rfl) ev_non (notNone hx))) (fun z => by cases z) (fun _ => sv_next ?_))
    refine sv_seq (sv_if (et_B (ev_cb (ea_cons (ev_var rfl) (ea_cons ev_raw ea_nil)) (rc_isi (.int b) (.ty "bool") (kit_ty (b := "bool") (r := false) (by decide +kernel))))) (fun z => by cases z) (fun _ => sv_next ?_))
    refine sv_seq (sv_if (et_B (ev_cb (ea_cons (ev_var rfl) (ea_cons ev_raw ea_nil)) (rc_isi (.int b) (.ty "int") (kit_ty (b := "int") (r := true) (by decide +kernel))))) (fun _ => ?_) (fun z => by cases z))
    refine sv_ret (ev_is (ev_and (ev_cb (ea_cons (ev_var rfl) (ea_cons ev_raw ea_nil)) (rc_isi (.int b) (.ty "int") (kit_ty (b := "int") (r := true) (by decide +kernel)))) (fun _ => ev_and (ev_not (ev_cb (ea_cons (ev_var rfl) (ea_cons ev_raw ea_nil)) (rc_isi (.int b) (.ty "bool") (kit_ty (b := "bool") (r := false) (by decide +kernel))))) (fun _ => ev_op (ev_var rfl) (ev_var rfl) rv_eqI))) ?_) rfl
    simp
  | str b =>
    refine ⟨_, (pss_cons (ps_if (pt_cmpR op_isN (pv 1) pe_non (nomark _)) (pss_one ps_never) pss_nil) (pss_cons (ps_if (pt_val (pe_callB call_isi (by rfl) B.isinstance (by decide +kernel) (pa_cons (pv 1) (pa_cons (pe_bltn (v := .ty "bool") (by rfl) B.bool (by decide +kernel) rfl) pa_nil)))) (pss_one ps_never) pss_nil) (pss_cons (ps_if (pt_val (pe_callB call_isi (by rfl) B.isinstance (by decide +kernel) (pa_cons (pv 1) (pa_cons (pe_bltn (v := .ty "int") (by rfl) B.int (by decide +kernel) rfl) pa_nil)))) (pss_one ps_never) pss_nil) (pss_cons (ps_if (pt_val (pe_callB call_isi (by rfl) B.isinstance (by decide +kernel) (pa_cons (pv 1) (pa_cons (pe_bltn (v := .ty "str") (by rfl) B.str (by decide +kernel) rfl) pa_nil)))) (pss_one (ps_ret (pe_and (pe_callB call_isi (by rfl) B.isinstance (by decide +kernel) (pa_cons (pv 0) (pa_cons (pe_bltn (v := .ty "str") (by rfl) B.str (by decide +kernel) rfl) pa_nil))) (pe_one (pe_cmpR op_eq (pv 0) (pv 1) (nomark _)))))) pss_nil) pss_never)))), fun S0 H0 => ?_⟩
    refine sv_seq (sv_if (et_test (ev_op (ev_var rfl) ev_non (notNone hx))) (fun z => by cases z) (fun _ => sv_next ?_))
    refine sv_seq (sv_if (et_B (ev_cb (ea_cons (ev_var rfl) (ea_cons ev_raw ea_nil)) (rc_isi (.str b) (.ty "bool") (kit_ty (b := "bool") (r := false) (by decide +kernel))))) (fun z => by cases z) (fun _ => sv_next ?_))
    refine sv_seq (sv_if (et_B (ev_cb (ea_cons (ev_var rfl) (ea_cons ev_raw ea_nil)) (rc_isi (.str b) (.ty "int") (kit_ty (b := "int") (r := false) (by decide +kernel))))) (fun z => by cases z) (fun _ => sv_next ?_))
    refine sv_seq (sv_if (et_B (ev_cb (ea_cons (ev_var rfl) (ea_cons ev_raw ea_nil)) (rc_isi (.str b) (.ty "str") (kit_ty (b := "str") (r := true) (by decide +kernel))))) (fun _ => ?_) (fun z => by cases z))
    refine sv_ret (ev_is (ev_and (ev_cb (ea_cons (ev_var rfl) (ea_cons ev_raw ea_nil)) (rc_isi (.str b) (.ty "str") (kit_ty (b := "str") (r := true) (by decide +kernel)))) (fun _ => ev_op (ev_var rfl) (ev_var rfl) rv_eqS)) ?_) rfl
    simp
  | tup xs =>
    obtain ⟨m', rfl, hxs⟩ : ∃ m', m = m' + 1 ∧ xs.length ≤ 1000 ∧ ∀ y ∈ xs, D.sz m' y = true := by
      cases m with
      | zero => simp [D.sz] at hx
      | succ m' => simp only [D.sz, Bool.and_eq_true, decide_eq_true_eq, List.all_eq_true] at hx; exact ⟨m', rfl, hx⟩
    refine ⟨_, (pss_cons (ps_if (pt_cmpR op_isN (pv 1) pe_non (nomark _)) (pss_one ps_never) pss_nil) (pss_cons (ps_if (pt_val (pe_callB call_isi (by rfl) B.isinstance (by decide +kernel) (pa_cons (pv 1) (pa_cons (pe_bltn (v := .ty "bool") (by rfl) B.bool (by decide +kernel) rfl) pa_nil)))) (pss_one ps_never) pss_nil) (pss_cons (ps_if (pt_val (pe_callB call_isi (by rfl) B.isinstance (by decide +kernel) (pa_cons (pv 1) (pa_cons (pe_bltn (v := .ty "int") (by rfl) B.int (by decide +kernel) rfl) pa_nil)))) (pss_one ps_never) pss_nil) (pss_cons (ps_if (pt_val (pe_callB call_isi (by rfl) B.isinstance (by decide +kernel) (pa_cons (pv 1) (pa_cons (pe_bltn (v := .ty "str") (by rfl) B.str (by decide +kernel) rfl) pa_nil)))) (pss_one ps_never) pss_nil)
      (pss_cons (ps_if (pt_val (pe_callB call_isi (by rfl) B.isinstance (by decide +kernel) (pa_cons (pv 1) (pa_cons (pe_bltn (v := .ty "tuple") (by rfl) B.tuple (by decide +kernel) rfl) pa_nil)))) (pss_one (ps_if (PW.pt (pw_or (pt_not (pt_val (pe_callB call_isi (by rfl) B.isinstance (by decide +kernel) (pa_cons (pv 0) (pa_cons (pe_bltn (v := .ty "tuple") (by rfl) B.tuple (by decide +kernel) rfl) pa_nil))))) (pw_or1 (pt_cmpR op_ne (pe_callB (kLen K) (by rfl) B.len (by decide +kernel) (pa_cons (pv 0) pa_nil)) (pe_callB (kLen K) (by rfl) B.len (by decide +kernel) (pa_cons (pv 1) pa_nil)) (nomark _))))) (pss_one ps_never) pss_nil)) (pss_one ps_never))
      (pss_cons (ps_for PassesOwn.never (by rfl) (pi_range1 (by rfl) B.range (pa_cons (pe_callB (kLen K) (by rfl) B.len (by decide +kernel) (pa_cons (pv 1) pa_nil)) pa_nil)) (pg_name (i := 2) scLawSame.nd rfl (.inl rfl))
        (pss_one (ps_if (pt_not (pt_val (pe_cd D_law_same (hr.mono (by omega)) (by rfl) pass0 (pa_cons (pe_ix (kIxT K) (pv 0) (pv 2) (fun _ _ => rfl)) (pa_cons (pe_ix (kIxT K) (pv 1) (pv 2) (fun _ _ => rfl)) pa_nil))))) (pss_one ps_never) pss_nil)))
      (pss_one (ps_ret pe_bl)))))))), fun S0 H0 => ?_⟩
    refine sv_seq (sv_if (et_test (ev_op (ev_var rfl) ev_non (notNone hx))) (fun z => by cases z) (fun _ => sv_next ?_))
    refine sv_seq (sv_if (et_B (ev_cb (ea_cons (ev_var rfl) (ea_cons ev_raw ea_nil)) (rc_isi (.tup xs) (.ty "bool") (kit_ty (b := "bool") (r := false) (by decide +kernel))))) (fun z => by cases z) (fun _ => sv_next ?_))
    refine sv_seq (sv_if (et_B (ev_cb (ea_cons (ev_var rfl) (ea_cons ev_raw ea_nil)) (rc_isi (.tup xs) (.ty "int") (kit_ty (b := "int") (r := false) (by decide +kernel))))) (fun z => by cases z) (fun _ => sv_next ?_))
    refine sv_seq (sv_if (et_B (ev_cb (ea_cons (ev_var rfl) (ea_cons ev_raw ea_nil)) (rc_isi (.tup xs) (.ty "str") (kit_ty (b := "str") (r := false) (by decide +kernel))))) (fun z => by cases z) (fun _ => sv_next ?_))
    refine sv_seq (sv_if (et_B (ev_cb (ea_cons (ev_var rfl) (ea_cons ev_raw ea_nil)) (rc_isi (.tup xs) (.ty "tuple") (kit_ty (b := "tuple") (r := true) (by decide +kernel))))) (fun _ => ?_) (fun z => by cases z))
    refine sv_if (b := false) (et_is (et_or (et_not (et_B (ev_cb (ea_cons (ev_var rfl) (ea_cons ev_raw ea_nil)) (rc_isi (.tup xs) (.ty "tuple") (kit_ty (b := "tuple") (r := true) (by decide +kernel)))))) (fun _ => et_test (ev_op (ev_cb (ea_cons (ev_var rfl) ea_nil) rc_lenT) (ev_cb (ea_cons (ev_var rfl) ea_nil) rc_lenT) rv_neI))) (by simp)) (fun z => by cases z) (fun _ => sv_next ?_)
    refine sv_seq (sv_forR (n := (xs.length : Int)) (fun i Γ => ∃ s2, Γ = [.val (.tup xs), .val (.tup xs), s2]) (ea_cons (ev_cb (ea_cons (ev_var rfl) ea_nil) rc_lenT) ea_nil) (by have := hxs.1; omega) ⟨_, rfl⟩ (fun i Γ1 hi hI => ?_) (fun Γ1 hI => ?_))
    · obtain ⟨s2, rfl⟩ := hI
      have hi' : i < xs.length := by omega
      have hat : xs[i]? = some xs[i] := List.getElem?_eq_getElem hi'
      refine step_name (sv_if (et_not (et_B (ev_call0 (d := .bl true) (ea_cons (ev_op (ev_var rfl) (ev_var rfl) (rv_ixT (j := i) rfl hat)) (ea_cons (ev_op (ev_var rfl) (ev_var rfl) (rv_ixT (j := i) rfl hat)) ea_nil)) (hR m' rfl _ (hxs.2 _ (List.getElem_mem hi')))))) (fun z => by cases z) (fun _ => sv_next ⟨_, rfl⟩))
    · obtain ⟨s2, rfl⟩ := hI
      exact sv_ret ev_bl rfl
  | lst xs =>
    obtain ⟨m', rfl, hxs⟩ : ∃ m', m = m' + 1 ∧ xs.length ≤ 1000 ∧ ∀ y ∈ xs, D.sz m' y = true := by
      cases m with
      | zero => simp [D.sz] at hx
      | succ m' => simp only [D.sz, Bool.and_eq_true, decide_eq_true_eq, List.all_eq_true] at hx; exact ⟨m', rfl, hx⟩
    refine ⟨_, (pss_cons (ps_if (pt_cmpR op_isN (pv 1) pe_non (nomark _)) (pss_one ps_never) pss_nil) (pss_cons (ps_if (pt_val (pe_callB call_isi (by rfl) B.isinstance (by decide +kernel) (pa_cons (pv 1) (pa_cons (pe_bltn (v := .ty "bool") (by rfl) B.bool (by decide +kernel) rfl) pa_nil)))) (pss_one ps_never) pss_nil) (pss_cons (ps_if (pt_val (pe_callB call_isi (by rfl) B.isinstance (by decide +kernel) (pa_cons (pv 1) (pa_cons (pe_bltn (v := .ty "int") (by rfl) B.int (by decide +kernel) rfl) pa_nil)))) (pss_one ps_never) pss_nil) (pss_cons (ps_if (pt_val (pe_callB call_isi (by rfl) B.isinstance (by decide +kernel) (pa_cons (pv 1) (pa_cons (pe_bltn (v := .ty "str") (by rfl) B.str (by decide +kernel) rfl) pa_nil)))) (pss_one ps_never) pss_nil)
      (pss_cons (ps_if (pt_val (pe_callB call_isi (by rfl) B.isinstance (by decide +kernel) (pa_cons (pv 1) (pa_cons (pe_bltn (v := .ty "tuple") (by rfl) B.tuple (by decide +kernel) rfl) pa_nil)))) (pss_one ps_never) (pss_one (ps_if (PW.pt (pw_or (pt_not (pt_val (pe_callB call_isi (by rfl) B.isinstance (by decide +kernel) (pa_cons (pv 0) (pa_cons (pe_bltn (v := .ty "list") (by rfl) B.list (by decide +kernel) rfl) pa_nil))))) (pw_or1 (pt_cmpR op_ne (pe_callB (kLen K) (by rfl) B.len (by decide +kernel) (pa_cons (pv 0) pa_nil)) (pe_callB (kLen K) (by rfl) B.len (by decide +kernel) (pa_cons (pv 1) pa_nil)) (nomark _))))) (pss_one ps_never) pss_nil)))
      (pss_cons (ps_for PassesOwn.never (by rfl) (pi_range1 (by rfl) B.range (pa_cons (pe_callB (kLen K) (by rfl) B.len (by decide +kernel) (pa_cons (pv 1) pa_nil)) pa_nil)) (pg_name (i := 2) scLawSame.nd rfl (.inl rfl))
        (pss_one (ps_if (pt_not (pt_val (pe_cd D_law_same (hr.mono (by omega)) (by rfl) pass0 (pa_cons (pe_ix (kIxL K) (pv 0) (pv 2) (fun _ _ => rfl)) (pa_cons (pe_ix (kIxL K) (pv 1) (pv 2) (fun _ _ => rfl)) pa_nil))))) (pss_one ps_never) pss_nil)))
      (pss_one (ps_ret pe_bl)))))))), fun S0 H0 => ?_⟩
    refine sv_seq (sv_if (et_test (ev_op (ev_var rfl) ev_non (notNone hx))) (fun z => by cases z) (fun _ => sv_next ?_))
    refine sv_seq (sv_if (et_B (ev_cb (ea_cons (ev_var rfl) (ea_cons ev_raw ea_nil)) (rc_isi (.lst xs) (.ty "bool") (kit_ty (b := "bool") (r := false) (by decide +kernel))))) (fun z => by cases z) (fun _ => sv_next ?_))
    refine sv_seq (sv_if (et_B (ev_cb (ea_cons (ev_var rfl) (ea_cons ev_raw ea_nil)) (rc_isi (.lst xs) (.ty "int") (kit_ty (b := "int") (r := false) (by decide +kernel))))) (fun z => by cases z) (fun _ => sv_next ?_))
    refine sv_seq (sv_if (et_B (ev_cb (ea_cons (ev_var rfl) (ea_cons ev_raw ea_nil)) (rc_isi (.lst xs) (.ty "str") (kit_ty (b := "str") (r := false) (by decide +kernel))))) (fun z => by cases z) (fun _ => sv_next ?_))
    refine sv_seq (sv_if (et_B (ev_cb (ea_cons (ev_var rfl) (ea_cons ev_raw ea_nil)) (rc_isi (.lst xs) (.ty "tuple") (kit_ty (b := "tuple") (r := false) (by decide +kernel))))) (fun z => by cases z) (fun _ => ?_))
    refine sv_if (b := false) (et_is (et_or (et_not (et_B (ev_cb (ea_cons (ev_var rfl) (ea_cons ev_raw ea_nil)) (rc_isi (.lst xs) (.ty "list") (kit_ty (b := "list") (r := true) (by decide +kernel)))))) (fun _ => et_test (ev_op (ev_cb (ea_cons (ev_var rfl) ea_nil) rc_lenL) (ev_cb (ea_cons (ev_var rfl) ea_nil) rc_lenL) rv_neI))) (by simp)) (fun z => by cases z) (fun _ => sv_next ?_)
    refine sv_seq (sv_forR (n := (xs.length : Int)) (fun i Γ => ∃ s2, Γ = [.val (.lst xs), .val (.lst xs), s2]) (ea_cons (ev_cb (ea_cons (ev_var rfl) ea_nil) rc_lenL) ea_nil) (by have := hxs.1; omega) ⟨_, rfl⟩ (fun i Γ1 hi hI => ?_) (fun Γ1 hI => ?_))
    · obtain ⟨s2, rfl⟩ := hI
      have hi' : i < xs.length := by omega
      have hat : xs[i]? = some xs[i] := List.getElem?_eq_getElem hi'
      refine step_name (sv_if (et_not (et_B (ev_call0 (d := .bl true) (ea_cons (ev_op (ev_var rfl) (ev_var rfl) (rv_ixL (j := i) rfl hat)) (ea_cons (ev_op (ev_var rfl) (ev_var rfl) (rv_ixL (j := i) rfl hat)) ea_nil)) (hR m' rfl _ (hxs.2 _ (List.getElem_mem hi')))))) (fun z => by cases z) (fun _ => sv_next ⟨_, rfl⟩))
    · obtain ⟨s2, rfl⟩ := hI
      exact sv_ret ev_bl rfl
  | _ => cases m <;> simp [D.sz] at hx

theorem ok_law_same {f : Addr} {fd : FuncData} (F : Fun K "_law_same" "_law_same" sLawSame f fd) (B : Bl mg) (g : mg "_law_same" = some (.ref f)) (kp : PySem.W.keepIn K (.ref f) = true) (b : Binds K fd ["_law_actual", "_law_due"] []) : ∀ m : Nat, FnOk P w K mg base CX0 (m + 1) f fd ["_law_actual", "_law_due"] (spR K C (rSame m))
  | 0 => ok_law_same_step F B ⟨f, fd, fn_false, g, kp, b⟩ (fun m' h => by omega)
  | m + 1 => ok_law_same_step F B ⟨f, fd, ok_law_same F B g kp b m, g, kp, b⟩ (fun m' h x hx => ⟨x, (Nat.succ.inj h).symm ▸ hx, rfl, rfl⟩)
theorem ok_law_is {k : Nat} {f : Addr} {fd : FuncData} (F : Fun K "_law_is" "_law_is" sLawIs f fd) (B : Bl mg) (bf : Bk K C) (gC : mg "Book" = some (.ref C)) (D_law_same : Def P w K mg base CX0 k "_law_same" ["_law_actual", "_law_due"] (spR K C (rSame 5))) (PE_is_even : PDef P w K mg base CX0 k C "is_even" ["self"] (spR K C rEven))
    (D_law_odd_faces : Def P w K mg base CX0 k "_law_odd_faces" ["_law_rooms_here"] (spR K C rOddF)) : FnOk P w K mg base CX0 (k + 2) f fd ["_law_book", "_law_n", "_law_size", "_law_rooms_here"] (spR K C rIs) := by
  refine fn_ev F scLawIs (fun ds d h => by obtain ⟨n, s, rs, _, _, rfl, _⟩ := h; rfl) (fun ds d h cdv A outer st H E hr => ?_)
  obtain ⟨n, s, rs, ok, ho, rfl, rfl⟩ := h
  refine ⟨_, (pss_cons (ps_if (PW.pt (pw_or (pt_not (pt_val (pe_callB call_isi (by rfl) B.isinstance (by decide +kernel) (pa_cons (pv 0) (pa_cons (pe_glob (v := .ref C) (by rfl) gC rfl) pa_nil))))) (pw_or1 (pt_not (pt_val (pe_cd D_law_same (hr.mono (by omega)) (by rfl) pass0 (pa_cons (pe_lst (pa_cons (kFld K (pv 0)) (pa_cons (kFld K (pv 0)) (pa_cons (kFld K (pv 0)) pa_nil)))) (pa_cons (pe_lst (pa_cons (pv 1) (pa_cons (pv 2) (pa_cons (pe_callTy cr_tup (by rfl) B.tuple (by decide +kernel) (pa_cons (pv 3) pa_nil)) pa_nil)))) pa_nil)))))))) (pss_one (ps_ret pe_bl)) pss_nil)
      (pss_one (ps_ret (pe_and (pe_cd D_law_same (hr.mono (by omega)) (by rfl) pass0 (pa_cons (pe_pd PE_is_even (hr.mono (by omega)) pass0 (pv 0)) (pa_cons pe_bl pa_nil))) (pe_one (pe_cmpR op_eq (pe_callB (kLen K) (by rfl) B.len (by decide +kernel) (pa_cons (pe_cd D_law_odd_faces (hr.mono (by omega)) (by rfl) pass0 (pa_cons (pv 3) pa_nil)) pa_nil)) pe_int (nomark _))))))), fun S0 H0 => ?_⟩
  have hl := ok.len
  have hsz : D.sz 5 (.lst [.int (n : Int), .int (s : Int), trooms rs]) = true := sz_lst (by simp) fun d hd => by
    rcases List.mem_cons.mp hd with rfl | hd
    · exact sz_int _ _
    rcases List.mem_cons.mp hd with rfl | hd
    · exact sz_int _ _
    rcases List.mem_cons.mp hd with rfl | hd
    · exact sz_trooms (by omega) fun r hr => by have := (ok.mem hr).len; have := ok.s8; omega
    cases hd
  refine sv_seq (sv_if (b := false) (et_is (et_or (et_not (et_B (ev_cb (ea_cons (ev_var rfl) (ea_cons ev_raw ea_nil)) (rc_isi (.book _ _ _ bf.cl bf.ha bf.hn bf.htk bf.hm) (.own C) bf.kit)))) (fun _ => et_not (et_B (ev_call0 (d := .bl true) (ea_cons (ev_lst (ea_cons (ev_fldN bf.cl bf.naP (ev_var rfl)) (ea_cons (ev_fldS bf.cl bf.naS (ev_var rfl)) (ea_cons (ev_fldR bf.cl bf.naR (ev_var rfl)) ea_nil))) (by simp)) (ea_cons (ev_lst (ea_cons (ev_var rfl) (ea_cons (ev_var rfl) (ea_cons (ev_cb (ea_cons (ev_var rfl) ea_nil) rc_tupL) ea_nil))) (by simp)) ea_nil)) ⟨_, hsz, rfl, rfl⟩)))) rfl) (fun z => by cases z) (fun _ => sv_next ?_))
  refine sv_ret (ev_is (ev_and (b := true) (ev_call0 (ea_cons (ev_is (ev_prop (ev_var rfl) ⟨n, s, rs, ok, rfl, rfl⟩) (d := .bl true) ?_) (ea_cons ev_bl ea_nil)) ⟨.bl true, rfl, rfl, rfl⟩) (fun _ => ev_op (ev_cb (ea_cons (ev_call0 (ea_cons (ev_var rfl) ea_nil) ⟨n, s, rs, ok, rfl, rfl⟩) ea_nil) rc_lenL) ev_int rv_eqI)) ?_) rfl
  · rw [ho]; rfl
  · rw [ho]; rfl
end
end NA

set_option Elab.async false
set_option linter.all false
set_option maxRecDepth 100000
set_option maxHeartbeats 4000000
set_option autoImplicit false
namespace NA
open PySem PySem.Spec PyProof.Rows L2
abbrev sLawBack : Stmt := topS 45
abbrev nLawBack : List Str := ["_law_n", "_law_size", "_law_rooms_here", "_law_outside", "_law_book", "_law_due", "_law_listed", "_law_room", "_law_kept", "_law_number_here"]
theorem scLawBack : FnScope nLawBack ["_law_n", "_law_size", "_law_rooms_here", "_law_outside"] (defScope sLawBack) := ⟨rfl, rfl, rfl, by decide +kernel, rfl, by decide +kernel, by decide +kernel⟩
abbrev sLawRefusals : Stmt := topS 48
abbrev nLawRefusals : List Str := ["_law_n", "_law_size", "_law_strange", "_law_outside", "_law_odd", "_law_due", "_law_door", "_law_wrong"]
theorem scLawRefusals : FnScope nLawRefusals ["_law_n", "_law_size", "_law_strange", "_law_outside"] (defScope sLawRefusals) := ⟨rfl, rfl, rfl, by decide +kernel, rfl, by decide +kernel, by decide +kernel⟩
/-- the mathematics that _law_back asks -/
structure BackOk (n s : Nat) (rs : List (List Int)) (p : Nat) : Prop where
  ok : BOk n s rs
  pn : p < n
  ev : oddF n s rs = []
  cone : coneF n s p (dueR p rs) = rs
  lt : numL (woR n s (p : Int)) (fun r => decide (r ∈ rs)) < 2 ^ cmb n s
  pick : NA.pick (woR n s (p : Int)) (numL (woR n s (p : Int)) fun r => decide (r ∈ rs)) = dueR p rs
def lstI (r : List Int) : D := .lst (r.map D.int)
def rBack : List D → D → Prop := fun ds d => ∃ (n s p : Nat) (rs : List (List Int)), BackOk n s rs p ∧ ds = [.int (n : Int), .int (s : Int), rooms rs, .int (p : Int)] ∧ d = .bl true
def rRefs : List D → D → Prop := fun ds d => ∃ (n s p : Nat) (rs : List (List Int)), BOk n s rs ∧ p < n ∧ oddF n s rs ≠ [] ∧ ds = [.int (n : Int), .int (s : Int), rooms rs, .int (p : Int)] ∧ d = .bl true
theorem canLay_lsts : ∀ rs : List (List Int), PyData.canLayAll0 (D.pyL (rs.map lstI)) = true
  | [] => by simp [PyData.canLayAll0, D.pyL]
  | i :: r => by
    have h : PyData.canLay0 (D.py (lstI i)) = true := by unfold lstI; simp only [D.py, PyData.canLay0]; rw [pyL_ints]; exact canLay_ints i
    simp only [List.map_cons, D.pyL, PyData.canLayAll0]; rw [h, canLay_lsts r]; rfl
theorem depth_lsts : ∀ rs : List (List Int), PyData.depthAll (D.pyL (rs.map lstI)) ≤ 1
  | [] => by simp [PyData.depthAll, D.pyL]
  | i :: r => by
    have h : PyData.depth (D.py (lstI i)) = 1 := by unfold lstI; simp only [D.py, PyData.depth]; rw [pyL_ints, depth_ints]
    simp only [List.map_cons, D.pyL, PyData.depthAll]; rw [h]; have := depth_lsts r; omega
theorem plain_lsts (rs : List (List Int)) : D.plain (.lst (rs.map lstI)) = true := by
  simp only [D.plain]
  rw [plainL_eq, List.all_map, List.all_eq_true]
  intro i _
  show D.plain (.lst _) = true
  simp only [D.plain]
  rw [plainL_eq, List.all_map, List.all_eq_true]
  intro j _; simp [D.plain]
theorem shaped_lsts (rs : List (List Int)) : SeqAt.shaped (D.py (.lst (rs.map lstI))) = true := by
  have h1 := canLay_lsts rs
  have h2 := depth_lsts rs
  unfold SeqAt.shaped; simp only [D.py, PyData.canLay0, PyData.depth]; rw [h1]; simp; omega
abbrev apexD : D := .tup [.str "apex", .bl true]
theorem shaped_pair (f : Str) (h : PyData.canLay0 (.str f) = true) : SeqAt.shaped (D.py (.tup [.str f, .bl true])) = true := by
  unfold SeqAt.shaped; simp only [D.py, D.pyL, PyData.canLay0, PyData.canLayAll0, PyData.depth, PyData.depthAll] at h ⊢; rw [h]; rfl
theorem rv_neP {K : PySem.W.Frag} {C : Addr} (f : Str) (h : PyData.canLay0 (.str f) = true) : RvD K C (rNeD K) (.tup [.str f, .bl true]) (.tup [.str f, .bl true]) (.bl false) := by
  have hs := shaped_pair f h
  exact rv_neD (b := true) rfl rfl hs hs (SeqAt.eqv_refl _ (SeqAt.canLay_of_shaped hs))
section
variable {P : Program} {w : World} {K : PySem.W.Frag} {mg : Str → Option Value} {base : Heap} {C Cm Cn : Addr}
theorem ok_law_back {k : Nat} {f : Addr} {fd : FuncData} (F : Fun K "_law_back" "_law_back" sLawBack f fd) (B : Bl mg) (KB : KDef P w K mg base CX0 k C "Book" ["self", "places", "size", "rooms"] (spI K C rInit))
    (D_filling : Def P w K mg base (L2.CX P w) k "filling" ["book", "apex"] (spX K C Cm Cn rFill rFillX)) (D_book_number : Def P w K mg base (L2.CX P w) k "book_number" ["book", "apex"] (spX K C Cm Cn rNum rFillX))
    (D_book_number0 : DefD P w K mg base (L2.CX P w) k "book_number" ["book", "apex"] (spX K C Cm Cn rNum rFillX) (.int 0)) (D_filled : Def P w K mg base (L2.CX P w) k "filled" ["places", "size", "apex", "rooms"] (spX K C Cm Cn rFilled rFilledX))
    (D_numbered_book : Def P w K mg base (L2.CX P w) k "numbered_book" ["places", "size", "number", "apex"] (spX K C Cm Cn rNB rNBX)) (D_numbered_book0 : DefD P w K mg base (L2.CX P w) k "numbered_book" ["places", "size", "number", "apex"] (spX K C Cm Cn rNB rNBX) (.int 0))
    (D_law_same : Def P w K mg base CX0 k "_law_same" ["_law_actual", "_law_due"] (spR K C (rSame 5))) (D_law_is : Def P w K mg base CX0 k "_law_is" ["_law_book", "_law_n", "_law_size", "_law_rooms_here"] (spR K C rIs))
    (D_law_number : Def P w K mg base CX0 k "_law_number" ["_law_n", "_law_size", "_law_rooms_here", "_law_outside"] (spR K C rNumL)) (D_law_refused : Def P w K mg base CX0 k "_law_refused" ["_law_door", "_law_n", "_law_size", "_law_rooms_here", "_law_number_here", "_law_outside"] (spR K C rRefused)) :
    FnOk P w K mg base CX0 (k + 2) f fd ["_law_n", "_law_size", "_law_rooms_here", "_law_outside"] (spR K C rBack) := by
  refine fn_ev F scLawBack (fun ds d h => by obtain ⟨n, s, p, rs, _, rfl, _⟩ := h; rfl) (fun ds d h cdv A outer st H E hr => ?_)
  obtain ⟨n, s, p, rs, ⟨ok, hp, hev, hcone, hlt, hpick⟩, rfl, rfl⟩ := h
  have hn := ok.n7
  have hsn := ok.sn
  have h1 := ok.s1
  have hmk := mk_sub hn h1 hsn ok.sub
  have hdsub : Sub n s (dueR p rs) := List.Sublist.trans List.filter_sublist ok.sub
  have hdok : BOk n s (dueR p rs) := ⟨hn, h1, hsn, hdsub⟩
  have hdl := hdok.len
  have hno : ∀ r ∈ dueR p rs, (p : Int) ∉ r := fun r hr' => by have := (List.mem_filter.mp hr').2; simpa using this
  have hfill : rFill [bk n s rs, .int (p : Int)] (trooms (dueR p rs)) := ⟨n, s, p, rs, ok, hp, hev, rfl, rfl⟩
  have hnum : rNum [bk n s rs, .int (p : Int)] (natD (numL (woR n s (p : Int)) fun r => decide (r ∈ rs))) := ⟨n, s, p, rs, ok, hp, hev, rfl, rfl⟩
  have hnb : rNB [.int (n : Int), .int (s : Int), natD (numL (woR n s (p : Int)) fun r => decide (r ∈ rs)), .int (p : Int)] (bk n s rs) := ⟨n, s, p, _, ⟨hn, h1, hsn, List.nil_sublist _⟩, hp, hlt, rfl, by rw [hpick, hcone]⟩
  have his : rIs [bk n s rs, .int (n : Int), .int (s : Int), rooms rs] (.bl true) := ⟨n, s, rs, ok, hev, rfl, rfl⟩
  refine ⟨_, (pss_cons (ps_set (i := 4) scLawBack.nd rfl (.inl rfl) (pe_kd KB (hr.mono (by omega)) (by rfl) pass0 (pa_cons (pv 0) (pa_cons (pv 1) (pa_cons (pv 2) pa_nil)))))
      (pss_cons (ps_set (i := 5) scLawBack.nd rfl (.inl rfl) (pe_callTy cr_tup (by rfl) B.tuple (by decide +kernel) (pa_cons (pe_lc (own := [("_law_room", 7)]) (g := gName 7) (by rfl) scLawBack.nd (pi_list (pv 2)) (blkOk_by (own := [("_law_room", 7)]) (N := nLawBack) (sc := defScope sLawBack) (by decide +kernel)) (fun _ _ _ _ _ => (pg_name (i := 7) scLawBack.nd rfl (.inl rfl))) (fun _ _ _ _ _ => (pts_one (pt_cmpR (kNotIn K) (pv 3) (pv 7) (by rfl)))) (fun _ _ _ _ _ => (pv 7))) pa_nil)))
      (pss_cons (ps_if (pt_not (pt_val (pe_cd D_law_same (hr.mono (by omega)) (by rfl) pass0 (pa_cons (pe_cd D_filling (hr.mono (by omega)) (by rfl) passL (pa_cons (pv 4) (pa_cons (pv 3) pa_nil))) (pa_cons (pv 5) pa_nil))))) (pss_one (ps_ret pe_bl)) pss_nil)
      (pss_cons (ps_set (i := 6) scLawBack.nd rfl (.inl rfl) (pe_lst pa_nil))
      (pss_cons (ps_for PassesOwn.never (by rfl) (pi_tup (pv 5)) (pg_name (i := 7) scLawBack.nd rfl (.inl rfl))
       (pss_one (ps_set (i := 6) scLawBack.nd rfl (.inl rfl) (pe_op op_cat (pe_lst (pa_cons (pe_revL (pe_callTy (kLst K) (by rfl) B.list (by decide +kernel) (pa_cons (pv 7) pa_nil))) pa_nil)) (pv 6)))))
      (pss_cons (ps_setLc (i := 8) (own := [("_law_room", 7)]) (g := gName 7) (tt := tYes) (by rfl) scLawBack.nd rfl rfl (sw_true rfl rfl rfl (by decide +kernel)) (pi_list (pv 6)) (blkOk_by (own := [("_law_room", 7)]) (N := nLawBack) (sc := defScope sLawBack) (by decide +kernel)) (fun _ _ _ _ _ => (pg_name (i := 7) scLawBack.nd rfl (.inl rfl))) (fun _ _ _ _ _ => pts_nil) (fun _ _ _ _ _ => (pe_callTy (kLst K) (by rfl) B.list (by decide +kernel) (pa_cons (pv 7) pa_nil))))
      (pss_cons (ps_if (PW.pt (pw_or (pt_not (pt_val (pe_cd D_law_is (hr.mono (by omega)) (by rfl) pass0 (pa_cons (pe_cd D_filled (hr.mono (by omega)) (by rfl) passL (pa_cons (pv 0) (pa_cons (pv 1) (pa_cons (pv 3) (pa_cons (pv 6) pa_nil))))) (pa_cons (pv 0) (pa_cons (pv 1) (pa_cons (pv 2) pa_nil))))))) (pw_or1 (pt_cmpR (op_neD hr.units) (pv 6) (pv 8) (nomark _))))) (pss_one (ps_ret pe_bl)) pss_nil)
      (pss_cons (ps_set (i := 9) scLawBack.nd rfl (.inl rfl) (pe_cd D_law_number (hr.mono (by omega)) (by rfl) pass0 (pa_cons (pv 0) (pa_cons (pv 1) (pa_cons (pv 2) (pa_cons (pv 3) pa_nil))))))
      (pss_cons (ps_if (pt_not (pt_val (pe_cd D_law_same (hr.mono (by omega)) (by rfl) pass0 (pa_cons (pe_cd D_book_number (hr.mono (by omega)) (by rfl) passL (pa_cons (pv 4) (pa_cons (pv 3) pa_nil))) (pa_cons (pv 9) pa_nil))))) (pss_one (ps_ret pe_bl)) pss_nil)
      (pss_cons (ps_if (PW.pt (pw_and (pt_cmpR op_eq (pv 3) pe_int (nomark _)) (pw_and1 (pt_not (pt_val (pe_cd D_law_same (hr.mono (by omega)) (by rfl) pass0 (pa_cons (pe_cdd D_book_number0 (hr.mono (by omega)) (by rfl) passL (pa_cons (pv 4) pa_nil)) (pa_cons (pv 9) pa_nil)))))))) (pss_one (ps_ret pe_bl)) pss_nil)
      (pss_cons (ps_if (PW.pt (pw_and (pt_cmpR op_eq (pv 3) pe_int (nomark _)) (pw_and1 (pt_not (pt_val (pe_cd D_law_is (hr.mono (by omega)) (by rfl) pass0 (pa_cons (pe_cdd D_numbered_book0 (hr.mono (by omega)) (by rfl) passL (pa_cons (pv 0) (pa_cons (pv 1) (pa_cons (pv 9) pa_nil)))) (pa_cons (pv 0) (pa_cons (pv 1) (pa_cons (pv 2) pa_nil)))))))))) (pss_one (ps_ret pe_bl)) pss_nil)
      (pss_cons (ps_if (PW.pt (pw_and (pt_cmpR op_lt (pe_callB (kLen K) (by rfl) B.len (by decide +kernel) (pa_cons (pv 5) pa_nil)) (pe_callB (kLen K) (by rfl) B.len (by decide +kernel) (pa_cons (pv 2) pa_nil)) (nomark _)) (pw_and1 (pt_cmpR (op_neD hr.units) (pe_cd D_law_refused (hr.mono (by omega)) (by rfl) pass0 (pa_cons pe_int (pa_cons (pv 0) (pa_cons (pv 1) (pa_cons (pv 2) (pa_cons pe_int (pa_cons (pv 3) pa_nil))))))) (pe_tup (pa_cons pe_str (pa_cons pe_bl pa_nil))) (nomark _))))) (pss_one (ps_ret pe_bl)) pss_nil)
      (pss_one (ps_ret (pe_cd D_law_is (hr.mono (by omega)) (by rfl) pass0 (pa_cons (pe_cd D_numbered_book (hr.mono (by omega)) (by rfl) passL (pa_cons (pv 0) (pa_cons (pv 1) (pa_cons (pv 9) (pa_cons (pv 3) pa_nil))))) (pa_cons (pv 0) (pa_cons (pv 1) (pa_cons (pv 2) pa_nil))))))))))))))))))), fun S0 H0 => ?_⟩
  refine sv_seq (sv_asg (ev_make (ea_cons (ev_var rfl) (ea_cons (ev_var rfl) (ea_cons (ev_var rfl) ea_nil))) hmk) ?_)
  refine sv_seq (sv_asg (d := trooms (dueR p rs)) (ev_cb (ea_cons (ev_is (ev_lcL (onR fun r => !decide ((p : Int) ∈ r)) id (ev_var rfl) (fun d hd => ?_)) (congrArg D.lst (lcRes_rooms rs _ _ (onR_room _) id fun _ => rfl))) ea_nil) rc_tupL) ?_)
  · obtain ⟨r, hr', rfl⟩ := List.mem_map.mp hd
    refine cstep_name (by simp) (et_is (et_test (ev_op (ev_var rfl) (ev_var rfl) rv_notInI)) ?_) (fun _ => ev_var rfl)
    rw [onR_room]
  refine sv_seq (sv_if (et_not (et_B (ev_call0 (d := .bl true) (ea_cons (ev_callX0 (ea_cons (ev_var rfl) (ea_cons (ev_var rfl) ea_nil)) hfill) (ea_cons (ev_var rfl) ea_nil)) ⟨_, sz_trooms (m := 3) (by omega) (fun r hr' => by have := (hdok.mem hr').len; omega), rfl, rfl⟩))) (fun z => by cases z) (fun _ => sv_next ?_))
  refine sv_seq (sv_asg (ev_lst ea_nil (by simp)) ?_)
  refine sv_seq (sv_forT (ds := (dueR p rs).map room) (fun i Γ => ∃ s7, Γ = [.val (.int (n : Int)), .val (.int (s : Int)), .val (rooms rs), .val (.int (p : Int)), .val (bk n s rs), .val (trooms (dueR p rs)), .val (.lst ((((dueR p rs).take i).map List.reverse).reverse.map lstI)), s7, .no, .no]) (ev_var rfl) ⟨_, rfl⟩ (fun i d Γ1 hd hI => ?_) (fun Γ1 hI => ?_))
  · obtain ⟨s7, rfl⟩ := hI
    obtain ⟨r, hr', rfl⟩ := at_map hd
    have hi := (List.getElem?_eq_some_iff.mp hr').1
    refine step_name (sv_asg (ev_op (ev_lst (ea_cons (ev_revL (ev_cb (ea_cons (ev_var rfl) ea_nil) rc_lstT)) ea_nil) (by simp)) (ev_var rfl) (rv_catL (by simp; omega))) ⟨.val (room r), ?_⟩)
    rw [take_snoc hr']
    simp [lstI]
  · obtain ⟨s7, rfl⟩ := hI
    rw [List.length_map, List.take_length]
    generalize hL : ((dueR p rs).map List.reverse).reverse = L
    have hrev : rInit [.int (n : Int), .int (s : Int), .lst (L.map lstI)] (n : Int) (s : Int) (dueR p rs) := by rw [← hL]; exact mk_rev hn h1 hsn hdsub
    refine sv_seq (sv_asg (d := .lst (L.map lstI)) (ev_is (ev_lcL (fun _ => true) id (ev_var rfl) (fun d hd => ?_)) ?_) ?_)
    · obtain ⟨r, hr', rfl⟩ := List.mem_map.mp hd
      exact cstep_name (by simp) et_yes (fun _ => ev_cb (ea_cons (ev_var rfl) ea_nil) rc_lstL)
    · unfold lcRes; rw [List.filter_eq_self.mpr (fun _ _ => rfl), List.map_id]
    have hfd : rFilled [.int (n : Int), .int (s : Int), .int (p : Int), .lst (L.map lstI)] (bk n s rs) := ⟨n, s, p, _, dueR p rs, hdok, hp, hno, hrev, rfl, by rw [hcone]⟩
    refine sv_seq (sv_if (b := false) (et_is (et_or (et_not (et_B (ev_call0 (d := .bl true) (ea_cons (ev_callX0 (ea_cons (ev_var rfl) (ea_cons (ev_var rfl) (ea_cons (ev_var rfl) (ea_cons (ev_var rfl) ea_nil)))) hfd) (ea_cons (ev_var rfl) (ea_cons (ev_var rfl) (ea_cons (ev_var rfl) ea_nil)))) his))) (fun _ => et_test (ev_op (ev_var rfl) (ev_var rfl) (rv_neD (b := true) (plain_lsts L) (plain_lsts L) (shaped_lsts L) (shaped_lsts L) (SeqAt.eqv_refl _ (SeqAt.canLay_of_shaped (shaped_lsts L))))))) rfl) (fun z => by cases z) (fun _ => sv_next ?_))
    refine sv_seq (sv_asg (ev_call0 (ea_cons (ev_var rfl) (ea_cons (ev_var rfl) (ea_cons (ev_var rfl) (ea_cons (ev_var rfl) ea_nil)))) ⟨n, s, p, rs, hn, by omega, hp, rfl, rfl⟩) ?_)
    refine sv_seq (sv_if (et_not (et_B (ev_call0 (d := .bl true) (ea_cons (ev_callX0 (ea_cons (ev_var rfl) (ea_cons (ev_var rfl) ea_nil)) hnum) (ea_cons (ev_var rfl) ea_nil)) ⟨_, sz_int 5 _, rfl, rfl⟩))) (fun z => by cases z) (fun _ => sv_next ?_))
    refine sv_seq (sv_if (b := false) (et_is (et_and (b' := false) (et_test (ev_op (ev_var rfl) ev_int rv_eqI)) (fun z => ?_)) (by simp)) (fun z => by cases z) (fun _ => sv_next ?_))
    · have hp0 : (p : Int) = 0 := of_decide_eq_true z
      exact et_not (et_B (ev_call0 (d := .bl true) (ea_cons (ev_callX (es := [.int 0]) (ea_cons (ev_var rfl) ea_nil) (fun S => .cons (.int 0) .nil) (by rw [hp0] at hnum; exact hp0 ▸ hnum)) (ea_cons (ev_var rfl) ea_nil)) ⟨_, sz_int 5 _, rfl, rfl⟩))
    refine sv_seq (sv_if (b := false) (et_is (et_and (b' := false) (et_test (ev_op (ev_var rfl) ev_int rv_eqI)) (fun z => ?_)) (by simp)) (fun z => by cases z) (fun _ => sv_next ?_))
    · have hp0 : (p : Int) = 0 := of_decide_eq_true z
      exact et_not (et_B (ev_call0 (d := .bl true) (ea_cons (ev_callX (es := [.int 0]) (ea_cons (ev_var rfl) (ea_cons (ev_var rfl) (ea_cons (ev_var rfl) ea_nil))) (fun S => .cons (.int 0) .nil) (d := bk n s rs) (by have := hnb; rw [hp0] at this ⊢; exact this)) (ea_cons (ev_var rfl) (ea_cons (ev_var rfl) (ea_cons (ev_var rfl) ea_nil)))) his))
    refine sv_seq (sv_if (b := false) (et_is (et_and (b' := false) (et_test (ev_op (ev_cb (ea_cons (ev_var rfl) ea_nil) rc_lenT) (ev_cb (ea_cons (ev_var rfl) ea_nil) rc_lenL) rv_B0)) (fun z => ?_)) (by simp)) (fun z => by cases z) (fun _ => sv_next ?_))
    · rw [List.length_map, List.length_map] at z
      have hlt' : (dueR p rs).length < rs.length := by have := of_decide_eq_true z; omega
      have hex : ∃ r ∈ rs, (p : Int) ∈ r := by
        refine Classical.byContradiction fun hne => ?_
        have : dueR p rs = rs := by
          unfold dueR
          refine List.filter_eq_self.mpr fun r hr' => ?_
          have : (p : Int) ∉ r := fun h => hne ⟨r, hr', h⟩
          simpa using this
        rw [this] at hlt'; omega
      refine et_test (ev_op (ev_call0 (d := apexD) (ea_cons ev_int (ea_cons (ev_var rfl) (ea_cons (ev_var rfl) (ea_cons (ev_var rfl) (ea_cons ev_int (ea_cons (ev_var rfl) ea_nil)))))) ⟨n, s, rs, 2, 0, (p : Int), ok, rfl, .inr (.inl ⟨rfl, .mis "apex", ⟨n, s, (p : Int), rooms rs, rs, ok, .inr hex, hmk, rfl, rfl⟩, rfl⟩)⟩) (ev_tup (ea_cons ev_str (ea_cons ev_bl ea_nil)) (by simp)) (rv_neP "apex" (by decide +kernel)))
    exact sv_ret (ev_call0 (ea_cons (ev_callX0 (ea_cons (ev_var rfl) (ea_cons (ev_var rfl) (ea_cons (ev_var rfl) (ea_cons (ev_var rfl) ea_nil)))) hnb) (ea_cons (ev_var rfl) (ea_cons (ev_var rfl) (ea_cons (ev_var rfl) ea_nil)))) his) rfl
theorem ok_law_refusals {k : Nat} {f : Addr} {fd : FuncData} (F : Fun K "_law_refusals" "_law_refusals" sLawRefusals f fd) (B : Bl mg) (D_law_odd_faces : Def P w K mg base CX0 k "_law_odd_faces" ["_law_rooms_here"] (spR K C rOddF))
    (D_law_same : Def P w K mg base CX0 k "_law_same" ["_law_actual", "_law_due"] (spR K C (rSame 5))) (D_law_refused : Def P w K mg base CX0 k "_law_refused" ["_law_door", "_law_n", "_law_size", "_law_rooms_here", "_law_number_here", "_law_outside"] (spR K C rRefused)) :
    FnOk P w K mg base CX0 (k + 1) f fd ["_law_n", "_law_size", "_law_strange", "_law_outside"] (spR K C rRefs) := by
  refine fn_ev F scLawRefusals (fun ds d h => by obtain ⟨n, s, p, rs, _, _, _, rfl, _⟩ := h; rfl) (fun ds d h cdv A outer st H E hr => ?_)
  obtain ⟨n, s, p, rs, ok, hp, hodd, rfl, rfl⟩ := h
  have hn := ok.n7
  have hsn := ok.sn
  obtain ⟨f1, fr, ho⟩ := List.exists_cons_of_ne_nil hodd
  have hfl : f1.length ≤ 7 := by
    have : f1 ∈ oddF n s rs := by rw [ho]; exact List.mem_cons_self
    have := ((oddF_sub n s rs).ok hn (by omega) this).len
    omega
  refine ⟨_, (pss_cons (ps_set (i := 4) scLawRefusals.nd rfl (.inl rfl) (pe_cd D_law_odd_faces (hr.mono (by omega)) (by rfl) pass0 (pa_cons (pv 2) pa_nil)))
      (pss_cons (ps_if (pt_cmpR op_eq (pe_callB (kLen K) (by rfl) B.len (by decide +kernel) (pa_cons (pv 4) pa_nil)) pe_int (nomark _)) (pss_one (ps_ret pe_bl)) pss_nil)
      (pss_cons (ps_set (i := 5) scLawRefusals.nd rfl (.inl rfl) (pe_tup (pa_cons pe_int (pa_cons (pe_ix (kIxL K) (pv 4) pe_int (fun _ _ => rfl)) (pa_cons pe_bl pa_nil)))))
      (pss_cons (ps_for PassesOwn.never (by rfl) (pi_range1 (by rfl) B.range (pa_cons pe_int pa_nil)) (pg_name (i := 6) scLawRefusals.nd rfl (.inl rfl))
       (pss_cons (ps_if (pt_not (pt_val (pe_cd D_law_same (hr.mono (by omega)) (by rfl) pass0 (pa_cons (pe_cd D_law_refused (hr.mono (by omega)) (by rfl) pass0 (pa_cons (pv 6) (pa_cons (pv 0) (pa_cons (pv 1) (pa_cons (pv 2) (pa_cons pe_int (pa_cons (pv 3) pa_nil))))))) (pa_cons (pv 5) pa_nil))))) (pss_one (ps_ret pe_bl)) pss_nil)
       (pss_one (ps_for PassesOwn.never (by rfl) (pi_list (pe_lst (pa_cons (pe_un un_neg pe_int) (pa_cons (pv 0) (pa_cons (pe_op op_add (pv 0) (pv 3)) pa_nil))))) (pg_name (i := 7) scLawRefusals.nd rfl (.inl rfl))
        (pss_one (ps_if (pt_cmpR (op_neD hr.units) (pe_cd D_law_refused (hr.mono (by omega)) (by rfl) pass0 (pa_cons (pv 6) (pa_cons (pv 0) (pa_cons (pv 1) (pa_cons (pv 2) (pa_cons pe_int (pa_cons (pv 7) pa_nil))))))) (pe_tup (pa_cons pe_str (pa_cons pe_bl pa_nil))) (nomark _)) (pss_one (ps_ret pe_bl)) pss_nil))))))
      (pss_one (ps_ret pe_bl)))))), fun S0 H0 => ?_⟩
  refine sv_seq (sv_asg (ev_call0 (ea_cons (ev_var rfl) ea_nil) ⟨n, s, rs, ok, rfl, rfl⟩) ?_)
  rw [ho]
  refine sv_seq (sv_if (et_test (ev_op (ev_cb (ea_cons (ev_var rfl) ea_nil) rc_lenL) ev_int rv_eqI)) (fun z => ?_) (fun _ => sv_next ?_))
  · have := of_decide_eq_true z; simp at this; omega
  refine sv_seq (sv_asg (ev_tup (ea_cons ev_int (ea_cons (ev_op (ev_var rfl) ev_int (rv_ixL (j := 0) rfl rfl)) (ea_cons ev_bl ea_nil))) (by simp)) ?_)
  refine sv_seq (sv_forR (n := 2) (fun i Γ => ∃ s6 s7, Γ = [.val (.int (n : Int)), .val (.int (s : Int)), .val (rooms rs), .val (.int (p : Int)), .val (rooms (f1 :: fr)), .val (.tup [.int 0, room f1, .bl true]), s6, s7]) (ea_cons ev_int ea_nil) (by decide) ⟨_, _, rfl⟩ (fun i Γ1 hi hI => ?_) (fun Γ1 hI => ?_))
  · obtain ⟨s6, s7, rfl⟩ := hI
    have hdoor : (i : Int) = 0 ∨ (i : Int) = 1 := by omega
    refine step_name (sv_seq (sv_if (et_not (et_B (ev_call0 (d := .bl true) (ea_cons (ev_call0 (d := .tup [.int 0, room f1, .bl true]) (ea_cons (ev_var rfl) (ea_cons (ev_var rfl) (ea_cons (ev_var rfl) (ea_cons (ev_var rfl) (ea_cons ev_int (ea_cons (ev_var rfl) ea_nil)))))) ⟨n, s, rs, (i : Int), 0, (p : Int), ok, rfl, .inl ⟨hdoor, .nev 0 f1, ⟨n, s, (p : Int), rs, ok, rfl, .inr ⟨⟨by omega, by omega⟩, f1, fr, ho, rfl⟩⟩, rfl⟩⟩) (ea_cons (ev_var rfl) ea_nil)) ⟨_, sz_tup (m := 4) (by simp) (fun d hd => ?_), rfl, rfl⟩))) (fun z => by cases z) (fun _ => sv_next ?_)))
    · rcases List.mem_cons.mp hd with rfl | hd
      · exact sz_int _ _
      rcases List.mem_cons.mp hd with rfl | hd
      · exact sz_room (by omega)
      rcases List.mem_cons.mp hd with rfl | hd
      · exact sz_bl _ _
      cases hd
    refine sv_forL (ds := [.int (-1), .int (n : Int), .int ((n : Int) + (p : Int))]) (fun j Γ => ∃ s7, Γ = [.val (.int (n : Int)), .val (.int (s : Int)), .val (rooms rs), .val (.int (p : Int)), .val (rooms (f1 :: fr)), .val (.tup [.int 0, room f1, .bl true]), .val (.int (i : Int)), s7]) (ev_lst (ea_cons (ev_un ev_int ru_neg) (ea_cons (ev_var rfl) (ea_cons (ev_op (ev_var rfl) (ev_var rfl) rv_I0) ea_nil))) (by simp)) ⟨_, rfl⟩ (fun j d Γ1 hd hI => ?_) (fun Γ1 hI => ?_)
    · obtain ⟨s7, rfl⟩ := hI
      obtain ⟨z, rfl, hz⟩ : ∃ z : Int, d = .int z ∧ ¬ inn n z := by
        match j, hd with
        | 0, hd => exact ⟨-1, (Option.some.inj hd).symm, fun h => by have := h.1; omega⟩
        | 1, hd => exact ⟨n, (Option.some.inj hd).symm, fun h => by have := h.2; omega⟩
        | 2, hd => exact ⟨n + p, (Option.some.inj hd).symm, fun h => by have := h.2; omega⟩
        | j + 3, hd => simp at hd
      refine step_name (sv_if (et_test (ev_op (ev_call0 (d := apexD) (ea_cons (ev_var rfl) (ea_cons (ev_var rfl) (ea_cons (ev_var rfl) (ea_cons (ev_var rfl) (ea_cons ev_int (ea_cons (ev_var rfl) ea_nil)))))) ⟨n, s, rs, (i : Int), 0, z, ok, rfl, .inl ⟨hdoor, .mis "apex", ⟨n, s, z, rs, ok, rfl, .inl ⟨hz, rfl⟩⟩, rfl⟩⟩) (ev_tup (ea_cons ev_str (ea_cons ev_bl ea_nil)) (by simp)) (rv_neP "apex" (by decide +kernel)))) (fun z => by cases z) (fun _ => sv_next ⟨_, rfl⟩))
    · obtain ⟨s7, rfl⟩ := hI
      exact ⟨_, _, rfl⟩
  · obtain ⟨s6, s7, rfl⟩ := hI
    exact sv_ret ev_bl rfl
end
end NA

set_option Elab.async false
set_option linter.all false
set_option maxRecDepth 100000
set_option maxHeartbeats 4000000
set_option autoImplicit false
namespace NA
open PySem PySem.Spec PyProof.Rows L2
abbrev sLawIsTest : Stmt := topS 46
abbrev nLawIsTest : List Str := ["_law_told", "_law_n", "_law_size", "_law_target", "_law_rows", "_law_test", "_law_every", "_law_k", "_law_row", "_law_room"]
theorem scLawIsTest : FnScope nLawIsTest ["_law_told", "_law_n", "_law_size", "_law_target", "_law_rows"] (defScope sLawIsTest) := ⟨rfl, rfl, rfl, by decide +kernel, rfl, by decide +kernel, by decide +kernel⟩
abbrev sLawSpans : Stmt := topS 47
abbrev nLawSpans : List Str := ["_law_n", "_law_size", "_law_rooms_here", "_law_strange", "_law_outside", "_law_listed", "_law_books", "_law_rows", "_law_indexes", "_law_whole", "_law_k", "_law_target", "_law_other", "_law_many", "_law_corners", "_law_j"]
theorem scLawSpans : FnScope nLawSpans ["_law_n", "_law_size", "_law_rooms_here", "_law_strange", "_law_outside"] (defScope sLawSpans) := ⟨rfl, rfl, rfl, by decide +kernel, rfl, by decide +kernel, by decide +kernel⟩
def geB (ns ms : List Int) : Bool := Ob.lexAt (fun j => decide (ns.getD j 0 = ms.getD j 0)) (fun j => decide (ms.getD j 0 ≤ ns.getD j 0)) (decide (ns.length ≥ ms.length)) 0 (min ns.length ms.length)
theorem allR_ge : ∀ n : Nat, n < 7 → ∀ s : Nat, s < 8 → (allR n s).Pairwise (fun a b => geB a b = false) := by decide +kernel
theorem allR_none : ∀ n : Nat, n < 7 → allR n (n + 1) = [] := by decide +kernel
theorem woR_lt {n s p : Nat} (hn : n < 7) (hs : s ≤ n) (hp : p < n) {r : List Int} (hr : r ∈ woR n s (p : Int)) : s < n := by
  have h1 := (woR_mem hn (by omega) hp).mp hr
  by_cases h : s = n
  · subst h
    have := up_all hn hn hp h1.1 h1.2
    rw [allR_none s hn] at this
    cases this
  · omega
/-- the boundary of a room of one place more -/
def bdR (n s : Nat) (c : List Int) : List (List Int) := oddF n (s + 1) [c]
theorem bdR_sub (n s : Nat) (c : List Int) : Sub n s (bdR n s c) := oddF_sub n (s + 1) [c]
def wholeF (n s p : Nat) (rs : List (List Int)) (l : List (List Int)) : List (List Int) := l.foldl (fun acc r => if r ∈ rs then xorR n s acc (bdR n s (up (p : Int) r)) else acc) []
def idxF (rs : List (List Int)) (l : List (List Int)) : List Nat := (List.range l.length).filter fun k => decide (l.getD k [] ∈ rs)
def bksF (n s p : Nat) : List (List (List Int)) := (woR n s (p : Int)).map fun r => bdR n s (up (p : Int) r)
structure TestOk (n s : Nat) (ts target : List (List Int)) (rows : List (List (List Int))) : Prop where
  sub : Sub n s ts
  few : ts.length ≤ rows.length + 1
  ev : ∀ row ∈ rows, (row.filter fun r => decide (r ∈ ts)).length % 2 = 0
  odd : (target.filter fun r => decide (r ∈ ts)).length % 2 = 1
structure SpansOk (n s : Nat) (rs strange : List (List Int)) (p : Nat) : Prop where
  ok : BOk n s rs
  oks : BOk n s strange
  pn : p < n
  ev : oddF n s rs = []
  bev : ∀ r ∈ woR n s (p : Int), oddF n s (bdR n s (up (p : Int) r)) = []
  whole : wholeF n s p rs (woR n s (p : Int)) = rs
  sum1 : (combX (firsts (rs :: bksF n s p).flatten) rs (bksF n s p)).2 < 2 ^ 64
  sum2 : combD n s (firsts (rs :: bksF n s p).flatten) rs (bksF n s p) = .tup [.str "sum", .tup ((idxF rs (woR n s (p : Int))).map natD)]
  rk1 : (combB (firsts (bksF n s p).flatten) (bksF n s p)).length = (bksF n s p).length
  rk2 : (combB (firsts (bksF n s p ++ [rs]).flatten) (bksF n s p ++ [rs])).length = (bksF n s p).length
  rk3 : (combB (firsts (strange :: bksF n s p).flatten) (strange :: bksF n s p)).length = (bksF n s p).length + 1
  tst1 : (combX (firsts (strange :: bksF n s p).flatten) strange (bksF n s p)).2 < 2 ^ 64
  tst2 : ∃ ts, combD n s (firsts (strange :: bksF n s p).flatten) strange (bksF n s p) = .tup [.str "test", trooms ts] ∧ TestOk n s ts strange (bksF n s p)
def rTest : List D → D → Prop := fun ds d => ∃ (n s : Nat) (ts target : List (List Int)) (rows : List (List (List Int))), BOk n s target ∧ (∀ row ∈ rows, BOk n s row) ∧ rows.length ≤ 20 ∧ TestOk n s ts target rows ∧
  ds = [.tup [.str "test", trooms ts], .int (n : Int), .int (s : Int), rooms target, .lst (rows.map rooms)] ∧ d = .bl true
def rSpans : List D → D → Prop := fun ds d => ∃ (n s p : Nat) (rs strange : List (List Int)), SpansOk n s rs strange p ∧ ds = [.int (n : Int), .int (s : Int), rooms rs, rooms strange, .int (p : Int)] ∧ d = .bl true
section
variable {K : PySem.W.Frag} {C : Addr} {S S' H H' S0 H0 : Hp} {σ : L2.St} {Γ Γ' : List Sl} {E : AE} {te to : TE} {d : D} {ds : List D}
theorem ev_index {L : List (List Int)} {r : List Int} {j : Nat} (ho : EvE K C to Γ (rooms L)) (h : EvE K C te Γ (room r)) (hj : L[j]? = some r) (hno : ∀ m, m < j → L[m]? ≠ some r) : EvE K C (tBM K "list" (rIndexD K) to (tCons te tNil)) Γ (.int (j : Int)) := fun σ S H E Q q =>
  ho σ S H E _ fun v S1 H1 g1 i1 => by
    obtain ⟨p, vs, rfl, hp, l, n⟩ := i1.lst_inv
    refine ⟨.inl ⟨rfl, vs, .of (g1.le _ _ hp)⟩, h σ S1 H1 (E.grow g1) _ fun w S2 H2 g2 i2 => ?_⟩
    have i1' : Is K C S2 (.ref p) (rooms L) := i1.mono g2.hs
    have hdp := i1'.dp g2.le (by show D.plain (.lst _) = true; simp only [D.plain]; exact plain_rooms L)
    have hat : ∀ m, (D.pyL (L.map room))[m]? = (L[m]?).map fun r => (room r).py := fun m => by rw [pyL_eq, List.getElem?_map, List.getElem?_map]; cases L[m]? <;> rfl
    refine ⟨p, w, (room r).py, D.pyL (L.map room), j, (room r).py, rfl, rfl, by simpa only [D.py] using hdp, i2.dp g2.le (plain_room r), by simpa only [D.py] using (shaped_rooms L).1, shaped_room r, ?_, ?_, fun m z' hm hz => ?_, q _ S2 H2 (g1.trans g2) (.int _)⟩
    · rw [hat, hj]; rfl
    · rw [eqv_room]; simp
    · rw [hat] at hz
      cases e : L[m]? with
      | none => rw [e] at hz; cases hz
      | some r' =>
        rw [e] at hz; cases hz
        rw [eqv_room]
        refine decide_eq_false fun z => ?_
        subst z
        exact hno m hm e
theorem ev_ixM {i : Nat} {j : Nat} {z : Int} (hi : Γ[i]? = some (.ml ds)) (h : EvE K C te Γ (.int z)) (hz : z = (j : Int)) (hd : ds[j]? = some d) : EvE K C (tOp (rIxL K) (tVar i) te) Γ d := fun σ S H E Q q => by
  obtain ⟨o, e1, p, vs, rfl, _⟩ := E.ok i _ hi
  refine ⟨.ref p, e1, h σ S H E _ fun w S1 H1 g i1 => ?_⟩
  obtain ⟨o, e2, p', vs', z', hS, hH, l, n⟩ := (E.grow g).ok i _ hi
  rw [e1] at e2; cases e2; cases z'
  obtain ⟨v, hv, iv⟩ := l.getD hd
  exact ⟨p, vs', z, v, rfl, i1.int_inv, .of hH, at_of hz hv, q _ S1 H1 g iv⟩
theorem rv_geT {r q : List Int} : RvD K C (NAX.rGeT K) (room r) (room q) (.bl (geB r q)) := fun S H v w e a b Q qq => by
  obtain ⟨p, rfl, h1, _⟩ := a.room_inv
  obtain ⟨p2, rfl, h2, _⟩ := b.room_inv
  exact ⟨p, p2, r, q, rfl, rfl, .of (e _ _ h1), .of (e _ _ h2), qq _ S H (Grow.refl e) (.bl _)⟩
end
section
variable {P : Program} {w : World} {K : PySem.W.Frag} {mg : Str → Option Value} {base : Heap} {C Cm Cn : Addr}
theorem ok_law_is_test {k : Nat} {f : Addr} {fd : FuncData} (F : Fun K "_law_is_test" "_law_is_test" sLawIsTest f fd) (B : Bl mg) (D_law_same : Def P w K mg base CX0 k "_law_same" ["_law_actual", "_law_due"] (spR K C (rSame 5)))
    (D_law_rooms : Def P w K mg base CX0 k "_law_rooms" ["_law_items", "_law_size"] (spR K C (rSubs 6))) : FnOk P w K mg base CX0 (k + 1) f fd ["_law_told", "_law_n", "_law_size", "_law_target", "_law_rows"] (spR K C rTest) := by
  refine fn_ev F scLawIsTest (fun ds d h => by obtain ⟨n, s, ts, target, rows, _, _, _, _, rfl, _⟩ := h; rfl) (fun ds d h cdv A outer st H E hr => ?_)
  obtain ⟨n, s, ts, target, rows, okt, okr, hl, ⟨hsub, hfew, hev, hodd⟩, rfl, rfl⟩ := h
  have hn := okt.n7
  have hsn := okt.sn
  have hs8 := okt.s8
  have htl := hsub.len hn hs8
  have hrl : ∀ r ∈ allR n s, r.length ≤ 7 := fun r hr' => by have := (roomOk hn hs8 hr').len; omega
  refine ⟨_, (pss_cons (ps_if (PW.pt (pw_or (pt_not (pt_val (pe_callB call_isi (by rfl) B.isinstance (by decide +kernel) (pa_cons (pv 0) (pa_cons (pe_bltn (v := .ty "tuple") (by rfl) B.tuple (by decide +kernel) rfl) pa_nil))))) (pw_or (pt_cmpR op_ne (pe_callB (kLen K) (by rfl) B.len (by decide +kernel) (pa_cons (pv 0) pa_nil)) pe_int (nomark _)) (pw_or (pt_not (pt_val (pe_cd D_law_same (hr.mono (by omega)) (by rfl) pass0 (pa_cons (pe_ix (kIxT K) (pv 0) pe_int (fun _ _ => rfl)) (pa_cons pe_str pa_nil))))) (pw_or1 (pt_not (pt_val (pe_callB call_isi (by rfl) B.isinstance (by decide +kernel) (pa_cons (pe_ix (kIxT K) (pv 0) pe_int (fun _ _ => rfl)) (pa_cons (pe_bltn (v := .ty "tuple") (by rfl) B.tuple (by decide +kernel) rfl) pa_nil)))))))))) (pss_one (ps_ret pe_bl)) pss_nil)
      (pss_cons (ps_set (i := 5) scLawIsTest.nd rfl (.inr rfl) (pe_ix (kIxT K) (pv 0) pe_int (fun _ _ => rfl)))
      (pss_cons (ps_set (i := 6) scLawIsTest.nd rfl (.inl rfl) (pe_cd D_law_rooms (hr.mono (by omega)) (by rfl) pass0 (pa_cons (pe_tupRg rfl (by rfl) B.tuple (prg_1 (by rfl) B.range (pv 1))) (pa_cons (pv 2) pa_nil))))
      (pss_cons (ps_if (pt_cmpR op_gt (pe_callB (kLen K) (by rfl) B.len (by decide +kernel) (pa_cons (pv 5) pa_nil)) (pe_op op_add (pe_callB (kLen K) (by rfl) B.len (by decide +kernel) (pa_cons (pv 4) pa_nil)) pe_int) (nomark _)) (pss_one (ps_ret pe_bl)) pss_nil)
      (pss_cons (ps_for PassesOwn.never (by rfl) (pi_range1 (by rfl) B.range (pa_cons (pe_callB (kLen K) (by rfl) B.len (by decide +kernel) (pa_cons (pv 5) pa_nil)) pa_nil)) (pg_name (i := 7) scLawIsTest.nd rfl (.inl rfl))
       (pss_cons (ps_if (PW.pt (pw_or (pt_cmpR (kNotInD K (hu65_of hr)) (pe_ix (kIxT K) (pv 5) (pv 7) (fun _ _ => rfl)) (pv 6) (by rfl)) (pw_or1 (pt_not (pt_val (pe_cd D_law_same (hr.mono (by omega)) (by rfl) pass0 (pa_cons (pe_ix (kIxT K) (pv 5) (pv 7) (fun _ _ => rfl)) (pa_cons (pe_ix (kIxL K) (pv 6) (pe_bm PySem.F.plainAttrs_list PySem.F.slot_list_index PySem.F.type_list_index (mt_indexD (hu65_of hr)) (pv 6) (pa_cons (pe_ix (kIxT K) (pv 5) (pv 7) (fun _ _ => rfl)) pa_nil)) (fun _ _ => rfl)) pa_nil)))))))) (pss_one (ps_ret pe_bl)) pss_nil)
       (pss_one (ps_if (PW.pt (pw_and (pt_cmpR op_gt (pv 7) pe_int (nomark _)) (pw_and1 (pt_cmpR (NAX.op_geT hr.units0) (pe_ix (kIxT K) (pv 5) (pe_op op_sub (pv 7) pe_int) (fun _ _ => rfl)) (pe_ix (kIxT K) (pv 5) (pv 7) (fun _ _ => rfl)) (nomark _))))) (pss_one (ps_ret pe_bl)) pss_nil))))
      (pss_cons (ps_for PassesOwn.never (by rfl) (pi_list (pv 4)) (pg_name (i := 8) scLawIsTest.nd rfl (.inl rfl))
       (pss_one (ps_if (pt_cmpR op_ne (pe_op op_modN (pe_callB (kLen K) (by rfl) B.len (by decide +kernel) (pa_cons (pe_lc (own := [("_law_room", 9)]) (g := gName 9) (by rfl) scLawIsTest.nd (pi_list (pv 8)) (blkOk_by (own := [("_law_room", 9)]) (N := nLawIsTest) (sc := defScope sLawIsTest) (by decide +kernel)) (fun _ _ _ _ _ => (pg_name (i := 9) scLawIsTest.nd rfl (.inl rfl))) (fun _ _ _ _ _ => (pts_one (pt_cmpR (kInDT K (hu65_of hr)) (pv 9) (pv 5) (by rfl)))) (fun _ _ _ _ _ => (pv 9))) pa_nil)) pe_int) pe_int (nomark _)) (pss_one (ps_ret pe_bl)) pss_nil)))
      (pss_one (ps_ret (pe_cmpR op_eq (pe_op op_modN (pe_callB (kLen K) (by rfl) B.len (by decide +kernel) (pa_cons (pe_lc (own := [("_law_room", 9)]) (g := gName 9) (by rfl) scLawIsTest.nd (pi_list (pv 3)) (blkOk_by (own := [("_law_room", 9)]) (N := nLawIsTest) (sc := defScope sLawIsTest) (by decide +kernel)) (fun _ _ _ _ _ => (pg_name (i := 9) scLawIsTest.nd rfl (.inl rfl))) (fun _ _ _ _ _ => (pts_one (pt_cmpR (kInDT K (hu65_of hr)) (pv 9) (pv 5) (by rfl)))) (fun _ _ _ _ _ => (pv 9))) pa_nil)) pe_int) pe_int (nomark _)))))))))), fun S0 H0 => ?_⟩
  refine sv_seq (sv_if (b := false) (et_is (et_or (et_not (et_B (ev_cb (ea_cons (ev_var rfl) (ea_cons ev_raw ea_nil)) (rc_isi (.tup _) (.ty "tuple") (kit_ty (b := "tuple") (r := true) (by decide +kernel)))))) (fun _ => et_or (et_test (ev_op (ev_cb (ea_cons (ev_var rfl) ea_nil) rc_lenT) ev_int rv_neI)) (fun _ => et_or (et_not (et_B (ev_call0 (d := .bl true) (ea_cons (ev_op (ev_var rfl) ev_int (rv_ixT (j := 0) rfl rfl)) (ea_cons ev_str ea_nil)) ⟨_, sz_str 5 "test", rfl, rfl⟩))) (fun _ => et_not (et_B (ev_cb (ea_cons (ev_op (ev_var rfl) ev_int (rv_ixT (j := 1) rfl rfl)) (ea_cons ev_raw ea_nil)) (rc_isi (.tup _) (.ty "tuple") (kit_ty (b := "tuple") (r := true) (by decide +kernel))))))))) rfl) (fun z => by cases z) (fun _ => sv_next ?_))
  refine sv_seq (sv_asg (ev_op (ev_var rfl) ev_int (rv_ixT (j := 1) (d := trooms ts) rfl rfl)) ?_)
  refine sv_seq (sv_asg (ev_call0 (ea_cons (ev_is (ev_tupRg (n := (n : Int)) (ev_var rfl) (by omega) (by omega)) (d := room (upI n)) (by rw [Int.toNat_natCast, upTo_eq])) (ea_cons (ev_var rfl) ea_nil)) ⟨upI n, s, rfl, by rw [upI_len]; omega, by omega, by omega, rfl⟩) ?_)
  refine sv_seq (sv_if (et_test (ev_op (ev_cb (ea_cons (ev_var rfl) ea_nil) rc_lenT) (ev_op (ev_cb (ea_cons (ev_var rfl) ea_nil) rc_lenL) ev_int rv_I0) rv_B0)) (fun z => ?_) (fun _ => sv_next ?_))
  · rw [List.length_map, List.length_map] at z
    have := of_decide_eq_true z; omega
  refine sv_seq (sv_forR (n := (ts.length : Int)) (fun i Γ => ∃ s7, Γ = [.val (.tup [.str "test", trooms ts]), .val (.int (n : Int)), .val (.int (s : Int)), .val (rooms target), .val (.lst (rows.map rooms)), .val (trooms ts), .val (rooms (allR n s)), s7, .no, .no]) (ea_cons (ev_is (ev_cb (ea_cons (ev_var rfl) ea_nil) rc_lenT) (by rw [List.length_map])) ea_nil) (by omega) ⟨_, rfl⟩ (fun i Γ1 hi hI => ?_) (fun Γ1 hI => ?_))
  · obtain ⟨s7, rfl⟩ := hI
    have hi' : i < ts.length := by omega
    have hat : ts[i]? = some ts[i] := List.getElem?_eq_getElem hi'
    have hatD : (ts.map room)[i]? = some (room ts[i]) := by rw [List.getElem?_map, hat]; rfl
    have hmem : ts[i] ∈ allR n s := hsub.subset (List.getElem_mem hi')
    obtain ⟨j, hj, ej⟩ := List.getElem_of_mem hmem
    have hjat : (allR n s)[j]? = some ts[i] := by rw [List.getElem?_eq_getElem hj, ej]
    have hno : ∀ m, m < j → (allR n s)[m]? ≠ some ts[i] := fun m hm e => by
      have nd := List.pairwise_iff_getElem.mp (allR_nd hn hs8)
      have hm' : m < (allR n s).length := by omega
      have := nd m j hm' hj hm
      rw [List.getElem?_eq_getElem hm'] at e
      exact this ((Option.some.inj e).trans ej.symm)
    have hjD : ((allR n s).map room)[j]? = some (room ts[i]) := by rw [List.getElem?_map, hjat]; rfl
    refine step_name (sv_seq (sv_if (b := false) (et_is (et_or (et_test (ev_op (ev_op (ev_var rfl) (ev_var rfl) (rv_ixT (j := i) rfl hatD)) (ev_var rfl) rv_notInDL)) (fun _ => et_not (et_B (ev_call0 (d := .bl true) (ea_cons (ev_op (ev_var rfl) (ev_var rfl) (rv_ixT (j := i) rfl hatD)) (ea_cons (ev_op (ev_var rfl) (ev_index (ev_var rfl) (ev_op (ev_var rfl) (ev_var rfl) (rv_ixT (j := i) rfl hatD)) hjat hno) (rv_ixL (j := j) rfl hjD)) ea_nil)) ⟨_, sz_room (m := 4) (by have := hrl _ hmem; omega), rfl, rfl⟩)))) (by simp [hmem])) (fun z => by cases z) (fun _ => sv_next ?_)))
    refine sv_if (b := false) (et_is (et_and (b' := false) (et_test (ev_op (ev_var rfl) ev_int rv_B0)) (fun z => ?_)) (by simp)) (fun z => by cases z) (fun _ => sv_next ⟨_, rfl⟩)
    have hpos : 0 < i := by have := of_decide_eq_true z; omega
    have hi1 : i - 1 < ts.length := by omega
    have hat1 : (ts.map room)[i - 1]? = some (room ts[i - 1]) := by rw [List.getElem?_map, List.getElem?_eq_getElem hi1]; rfl
    have hge : geB ts[i - 1] ts[i] = false := List.pairwise_iff_getElem.mp ((allR_ge n hn s hs8).sublist hsub) (i - 1) i hi1 hi' (by omega)
    exact et_is (et_test (ev_op (ev_op (ev_var rfl) (ev_op (ev_var rfl) ev_int rv_I0) (rv_ixT (j := i - 1) (by omega) hat1)) (ev_op (ev_var rfl) (ev_var rfl) (rv_ixT (j := i) rfl hatD)) rv_geT)) hge
  · obtain ⟨s7, rfl⟩ := hI
    have hfm : ∀ (c : Nat), (c : Int).fmod 2 = ((c % 2 : Nat) : Int) := fun c => by rw [Int.fmod_eq_emod_of_nonneg _ (by decide)]; rfl
    refine sv_seq (sv_forL (ds := rows.map rooms) (fun i Γ => ∃ s8, Γ = [.val (.tup [.str "test", trooms ts]), .val (.int (n : Int)), .val (.int (s : Int)), .val (rooms target), .val (.lst (rows.map rooms)), .val (trooms ts), .val (rooms (allR n s)), s7, s8, .no]) (ev_var rfl) ⟨_, rfl⟩ (fun i d Γ1 hd hI => ?_) (fun Γ1 hI => ?_))
    · obtain ⟨s8, rfl⟩ := hI
      obtain ⟨row, hrow, rfl⟩ := at_map hd
      refine step_name (sv_if (b := false) (et_is (et_test (ev_op (ev_op (ev_cb (ea_cons (ev_is (ev_lcL (onR fun r => decide (r ∈ ts)) id (ev_var rfl) (fun d hd => ?_)) (congrArg D.lst (lcRes_rooms row _ _ (onR_room _) id fun _ => rfl))) ea_nil) rc_lenL) ev_int (rv_I (by decide))) ev_int rv_neI)) ?_) (fun z => by cases z) (fun _ => sv_next ⟨_, rfl⟩))
      · obtain ⟨r, hr', rfl⟩ := List.mem_map.mp hd
        refine cstep_name (by simp) (et_is (et_test (ev_op (ev_var rfl) (ev_var rfl) rv_inDT)) ?_) (fun _ => ev_var rfl)
        rw [onR_room]
      · rw [List.length_map, hfm, hev row (List.mem_of_getElem? hrow)]; rfl
    · obtain ⟨s8, rfl⟩ := hI
      refine sv_ret (ev_is (ev_op (ev_op (ev_cb (ea_cons (ev_is (ev_lcL (onR fun r => decide (r ∈ ts)) id (ev_var rfl) (fun d hd => ?_)) (congrArg D.lst (lcRes_rooms target _ _ (onR_room _) id fun _ => rfl))) ea_nil) rc_lenL) ev_int (rv_I (by decide))) ev_int rv_eqI) ?_) rfl
      · obtain ⟨r, hr', rfl⟩ := List.mem_map.mp hd
        refine cstep_name (by simp) (et_is (et_test (ev_op (ev_var rfl) (ev_var rfl) rv_inDT)) ?_) (fun _ => ev_var rfl)
        rw [onR_room]
      · rw [List.length_map, hfm, hodd]; rfl
theorem facesF_nd {n s : Nat} {c : List Int} (h : RoomOk n s c) : (facesF c).Nodup := by
  unfold facesF
  refine List.nodup_iff_pairwise_ne.mpr (List.pairwise_map.mpr ?_)
  refine List.Pairwise.imp_of_mem ?_ List.pairwise_lt_range
  intro i j hi hj hij e
  have hi' : i < c.length := List.mem_range.mp hi
  have hj' : j < c.length := List.mem_range.mp hj
  have h1 : (c.eraseIdx i)[i]? = c[i + 1]? := by rw [List.getElem?_eraseIdx]; simp
  have h2 : (c.eraseIdx j)[i]? = c[i]? := by rw [List.getElem?_eraseIdx, if_pos hij]
  rw [e, h2] at h1
  have hlt := List.pairwise_iff_getElem.mp h.lt i (i + 1) hi' (by omega) (by omega)
  rw [List.getElem?_eq_getElem hi', List.getElem?_eq_getElem (show i + 1 < c.length by omega)] at h1
  have := Option.some.inj h1
  omega
theorem bd_sort {n s : Nat} {c : List Int} (hn : n < 7) (hs : s < 7) (hc : c ∈ allR n (s + 1)) : SortTo (facesF c) (bdR n s c) s := by
  have cok := roomOk hn (by omega) hc
  have nd := facesF_nd cok
  have e : allF [c] = facesF c := by unfold allF; simp
  unfold bdR oddF
  rw [e]
  refine sel_sort hn (by omega) nd fun f => ?_
  constructor
  · intro hf
    refine ⟨allR_face hn hs hc hf, ?_⟩
    unfold oddP; rw [nd.count, if_pos hf]; rfl
  · rintro ⟨_, h⟩
    unfold oddP at h
    by_cases hf : f ∈ facesF c
    · exact hf
    · rw [List.count_eq_zero.mpr hf] at h; exact absurd h (by decide)
theorem ok_law_spans {k : Nat} {f : Addr} {fd : FuncData} (F : Fun K "_law_spans" "_law_spans" sLawSpans f fd) (B : Bl mg) (gC : mg "Book" = some (.ref C)) (KB : KDef P w K mg base CX0 k C "Book" ["self", "places", "size", "rooms"] (spI K C rInit)) (CD_empty : CDef P w K mg base CX0 k C "empty" (spR K C (rEmpty C)))
    (OB : ODef P w K mg base CX0 k C "__xor__" ["self", "other"] (spR K C rXor)) (D_law_without : Def P w K mg base CX0 k "_law_without" ["_law_n", "_law_size", "_law_outside"] (spR K C rWithout)) (D_boundary_book : Def P w K mg base CX0 k "boundary_book" ["places", "corners"] (spR K C rBB))
    (D_law_is : Def P w K mg base CX0 k "_law_is" ["_law_book", "_law_n", "_law_size", "_law_rooms_here"] (spR K C rIs)) (D_law_same : Def P w K mg base CX0 k "_law_same" ["_law_actual", "_law_due"] (spR K C (rSame 5))) (D_combination : Def P w K mg base CX0 k "combination" ["target", "books"] (spR K C rComb))
    (D_rank_of : Def P w K mg base CX0 k "rank_of" ["books"] (spR K C rRank)) (D_law_is_test : Def P w K mg base CX0 k "_law_is_test" ["_law_told", "_law_n", "_law_size", "_law_target", "_law_rows"] (spR K C rTest)) :
    FnOk P w K mg base CX0 (k + 2) f fd ["_law_n", "_law_size", "_law_rooms_here", "_law_strange", "_law_outside"] (spR K C rSpans) := by
  refine fn_ev F scLawSpans (fun ds d h => by obtain ⟨n, s, p, rs, strange, _, rfl, _⟩ := h; rfl) (fun ds d h cdv A outer st H E hr => ?_)
  obtain ⟨n, s, p, rs, strange, ⟨ok, oks, hp, hev, hbev, hwh, hs1, hs2, rk1, rk2, rk3, ht1, ts, ht2, htest⟩, rfl, rfl⟩ := h
  have hn := ok.n7
  have hsn := ok.sn
  have h1 := ok.s1
  have hs8 := ok.s8
  have hwl : (woR n s (p : Int)).length ≤ 20 := (woR_sub hn hs8 hp).len hn hs8
  have hbo : ∀ c, BOk n s (bdR n s c) := fun c => ⟨hn, h1, hsn, bdR_sub n s c⟩
  have hbks : ∀ b ∈ bksF n s p, BOk n s b := fun b hb => by obtain ⟨r, _, rfl⟩ := List.mem_map.mp hb; exact hbo _
  have hb2 : ∀ b ∈ bksF n s p ++ [rs], BOk n s b := fun b hb => by
    rcases List.mem_append.mp hb with h | h
    · exact hbks b h
    · have e : b = rs := by simpa using h
      rw [e]; exact ok
  have hb3 : ∀ b ∈ strange :: bksF n s p, BOk n s b := fun b hb => by
    rcases List.mem_cons.mp hb with h | h
    · rw [h]; exact oks
    · exact hbks b h
  have hbl : (bksF n s p).length = (woR n s (p : Int)).length := List.length_map ..
  have hwok : ∀ l, BOk n s (wholeF n s p rs l) := fun l => ⟨hn, h1, hsn, by
    refine snoc_ind (M := fun l => Sub n s (wholeF n s p rs l)) (List.nil_sublist _) (fun l r ih => ?_) l
    unfold wholeF at ih ⊢
    rw [List.foldl_append]
    show Sub n s (if r ∈ rs then _ else _)
    split
    · exact sel_sub _ _ _
    · exact ih⟩
  refine ⟨_, (pss_cons (ps_set (i := 5) scLawSpans.nd rfl (.inl rfl) (pe_cd D_law_without (hr.mono (by omega)) (by rfl) pass0 (pa_cons (pv 0) (pa_cons (pv 1) (pa_cons (pv 4) pa_nil)))))
      (pss_cons (ps_set (i := 6) scLawSpans.nd rfl (.inl rfl) (pe_lst pa_nil))
      (pss_cons (ps_set (i := 7) scLawSpans.nd rfl (.inl rfl) (pe_lst pa_nil))
      (pss_cons (ps_set (i := 8) scLawSpans.nd rfl (.inl rfl) (pe_lst pa_nil))
      (pss_cons (ps_set (i := 9) scLawSpans.nd rfl (.inl rfl) (pe_clsd CD_empty (hr.mono (by omega)) pass0 (pe_glob (v := .ref C) (by rfl) gC rfl) (pa_cons (pv 0) (pa_cons (pv 1) pa_nil))))
      (pss_cons (ps_for PassesOwn.never (by rfl) (pi_range1 (by rfl) B.range (pa_cons (pe_callB (kLen K) (by rfl) B.len (by decide +kernel) (pa_cons (pv 5) pa_nil)) pa_nil)) (pg_name (i := 10) scLawSpans.nd rfl (.inl rfl))
       (pss_cons (ps_set (i := 14) scLawSpans.nd rfl (.inr rfl) (pe_callTy cr_tup (by rfl) B.tuple (by decide +kernel) (pa_cons (pe_callB NAX.cr_sortTI (by rfl) B.sorted (by decide +kernel) (pa_cons (pe_op (kCatT K) (pe_ix (kIxL K) (pv 5) (pv 10) (fun _ _ => rfl)) (pe_tup (pa_cons (pv 4) pa_nil))) pa_nil)) pa_nil)))
       (pss_cons (ps_expr (pe_bm PySem.F.plainAttrs_list PySem.F.slot_list_append PySem.F.type_list_append mt_append (pv 7) (pa_cons (pe_callB NAX.cr_sortRL (by rfl) B.sorted (by decide +kernel) (pa_cons (pe_lc (own := [("_law_j", 15)]) (g := gName 15) (tt := tYes) (by rfl) scLawSpans.nd (pi_range1 (by rfl) B.range (pa_cons (pe_op op_add (pv 1) pe_int) pa_nil)) (blkOk_by (own := [("_law_j", 15)]) (N := nLawSpans) (sc := defScope sLawSpans) (by decide +kernel)) (fun _ _ _ _ _ => (pg_name (i := 15) scLawSpans.nd rfl (.inl rfl))) (fun _ _ _ _ _ => pts_nil) (fun _ _ _ _ _ => (pe_op (kCatT K) (pe_slice (kSlT K) (pv 14) po_none (po_some (pv 15))) (pe_slice (kSlT K) (pv 14) (po_some (pe_op op_add (pv 15) pe_int)) po_none)))) pa_nil)) pa_nil)))
       (pss_cons (ps_expr (pe_bm PySem.F.plainAttrs_list PySem.F.slot_list_append PySem.F.type_list_append mt_append (pv 6) (pa_cons (pe_cd D_boundary_book (hr.mono (by omega)) (by rfl) pass0 (pa_cons (pv 0) (pa_cons (pv 14) pa_nil))) pa_nil)))
       (pss_cons (ps_if (pt_not (pt_val (pe_cd D_law_is (hr.mono (by omega)) (by rfl) pass0 (pa_cons (pe_ix (kIxL K) (pv 6) (pv 10) (fun _ _ => rfl)) (pa_cons (pv 0) (pa_cons (pv 1) (pa_cons (pe_ix (kIxL K) (pv 7) (pv 10) (fun _ _ => rfl)) pa_nil))))))) (pss_one (ps_ret pe_bl)) pss_nil)
       (pss_one (ps_if (pt_cmpR (kInD K (hu65_of hr)) (pe_ix (kIxL K) (pv 5) (pv 10) (fun _ _ => rfl)) (pv 2) (by rfl)) (pss_cons (ps_expr (pe_bm PySem.F.plainAttrs_list PySem.F.slot_list_append PySem.F.type_list_append mt_append (pv 8) (pa_cons (pv 10) pa_nil)))
        (pss_one (ps_set (i := 9) scLawSpans.nd rfl (.inl rfl) (pe_op (op_od OB (hr.mono (by omega)) pass0) (pv 9) (pe_ix (kIxL K) (pv 6) (pv 10) (fun _ _ => rfl)))))) pss_nil)))))))
      (pss_cons (ps_if (pt_not (pt_val (pe_cd D_law_is (hr.mono (by omega)) (by rfl) pass0 (pa_cons (pv 9) (pa_cons (pv 0) (pa_cons (pv 1) (pa_cons (pv 2) pa_nil))))))) (pss_one (ps_ret pe_bl)) pss_nil)
      (pss_cons (ps_set (i := 11) scLawSpans.nd rfl (.inl rfl) (pe_kd KB (hr.mono (by omega)) (by rfl) pass0 (pa_cons (pv 0) (pa_cons (pv 1) (pa_cons (pv 2) pa_nil)))))
      (pss_cons (ps_set (i := 12) scLawSpans.nd rfl (.inl rfl) (pe_kd KB (hr.mono (by omega)) (by rfl) pass0 (pa_cons (pv 0) (pa_cons (pv 1) (pa_cons (pv 3) pa_nil)))))
      (pss_cons (ps_if (pt_not (pt_val (pe_cd D_law_same (hr.mono (by omega)) (by rfl) pass0 (pa_cons (pe_cd D_combination (hr.mono (by omega)) (by rfl) pass0 (pa_cons (pv 11) (pa_cons (pv 6) pa_nil))) (pa_cons (pe_tup (pa_cons pe_str (pa_cons (pe_callTy cr_tup (by rfl) B.tuple (by decide +kernel) (pa_cons (pv 8) pa_nil)) pa_nil))) pa_nil))))) (pss_one (ps_ret pe_bl)) pss_nil)
      (pss_cons (ps_set (i := 13) scLawSpans.nd rfl (.inl rfl) (pe_callB (kLen K) (by rfl) B.len (by decide +kernel) (pa_cons (pv 6) pa_nil)))
      (pss_cons (ps_if (pt_not (pt_val (pe_cd D_law_same (hr.mono (by omega)) (by rfl) pass0 (pa_cons (pe_lst (pa_cons (pe_cd D_rank_of (hr.mono (by omega)) (by rfl) pass0 (pa_cons (pv 6) pa_nil)) (pa_cons (pe_cd D_rank_of (hr.mono (by omega)) (by rfl) pass0 (pa_cons (pe_op op_cat (pv 6) (pe_lst (pa_cons (pv 11) pa_nil))) pa_nil)) (pa_cons (pe_cd D_rank_of (hr.mono (by omega)) (by rfl) pass0 (pa_cons (pe_op op_cat (pe_lst (pa_cons (pv 12) pa_nil)) (pv 6)) pa_nil)) pa_nil)))) (pa_cons (pe_lst (pa_cons (pv 13) (pa_cons (pv 13) (pa_cons (pe_op op_add (pv 13) pe_int) pa_nil)))) pa_nil))))) (pss_one (ps_ret pe_bl)) pss_nil)
      (pss_one (ps_ret (pe_and (pe_cmpR op_eq (pe_callB (kLen K) (by rfl) B.len (by decide +kernel) (pa_cons (pv 6) pa_nil)) (pv 13) (nomark _)) (pe_one (pe_cd D_law_is_test (hr.mono (by omega)) (by rfl) pass0 (pa_cons (pe_cd D_combination (hr.mono (by omega)) (by rfl) pass0 (pa_cons (pv 12) (pa_cons (pv 6) pa_nil))) (pa_cons (pv 0) (pa_cons (pv 1) (pa_cons (pv 3) (pa_cons (pv 7) pa_nil)))))))))))))))))))))), fun S0 H0 => ?_⟩
  refine sv_seq (sv_asg (ev_call0 (ea_cons (ev_var rfl) (ea_cons (ev_var rfl) (ea_cons (ev_var rfl) ea_nil))) ⟨n, s, p, hn, by omega, rfl, rfl⟩) ?_)
  refine sv_seq (sv_lnew ea_nil (by simp) ?_)
  refine sv_seq (sv_lnew ea_nil (by simp) ?_)
  refine sv_seq (sv_lnew ea_nil (by simp) ?_)
  refine sv_seq (sv_asg (ev_cmeth ev_raw (ea_cons (ev_var rfl) (ea_cons (ev_var rfl) ea_nil)) ⟨n, s, ⟨hn, h1, hsn, List.nil_sublist _⟩, rfl, rfl⟩) ?_)
  refine sv_seq (sv_forR (n := ((woR n s (p : Int)).length : Int)) (fun i Γ => ∃ s10 s14 s15, i ≤ (woR n s (p : Int)).length ∧ Γ = [.val (.int (n : Int)), .val (.int (s : Int)), .val (rooms rs), .val (rooms strange), .val (.int (p : Int)), .val (rooms (woR n s (p : Int))),
    .ml (((bksF n s p).take i).map fun b => bk n s b), .ml (((bksF n s p).take i).map rooms), .ml ((idxF rs ((woR n s (p : Int)).take i)).map natD), .val (bk n s (wholeF n s p rs ((woR n s (p : Int)).take i))), s10, .no, .no, .no, s14, s15])
    (ea_cons (ev_is (ev_cb (ea_cons (ev_var rfl) ea_nil) rc_lenL) (by rw [List.length_map])) ea_nil) (by omega) ⟨_, _, _, Nat.zero_le _, rfl⟩ (fun i Γ1 hi hI => ?_) (fun Γ1 hI => ?_))
  · obtain ⟨s10, s14, s15, _, rfl⟩ := hI
    have hi' : i < (woR n s (p : Int)).length := by omega
    generalize hr : (woR n s (p : Int))[i] = r
    have hat : (woR n s (p : Int))[i]? = some r := by rw [List.getElem?_eq_getElem hi', hr]
    have hmem := List.mem_of_getElem? hat
    have hatD : ((woR n s (p : Int)).map room)[i]? = some (room r) := by rw [List.getElem?_map, hat]; rfl
    have hbat : (bksF n s p)[i]? = some (bdR n s (up (p : Int) r)) := by unfold bksF; rw [List.getElem?_map, hat]; rfl
    have hrm := (woR_mem hn hs8 hp).mp hmem
    have hslt := woR_lt hn hsn hp hmem
    have hc : up (p : Int) r ∈ allR n (s + 1) := up_all hn (by omega) hp hrm.1 hrm.2
    have cl := (roomOk hn (by omega) hc).len
    have rl := (roomOk hn hs8 hrm.1).len
    have hsort := bd_sort hn (by omega) hc
    have tkb : (bksF n s p).take (i + 1) = (bksF n s p).take i ++ [bdR n s (up (p : Int) r)] := take_snoc hbat
    have hbtl : ((bksF n s p).take i).length = i := by rw [List.length_take]; omega
    have htl : ((woR n s (p : Int)).take i).length = i := by rw [List.length_take]; omega
    have tkw : (woR n s (p : Int)).take (i + 1) = (woR n s (p : Int)).take i ++ [r] := take_snoc hat
    have hidx : idxF rs ((woR n s (p : Int)).take (i + 1)) = idxF rs ((woR n s (p : Int)).take i) ++ (if r ∈ rs then [i] else []) := by
      unfold idxF
      rw [tkw, List.length_append, htl]
      show List.filter _ (List.range (i + 1)) = _
      rw [List.range_succ, List.filter_append]
      congr 1
      · refine List.filter_congr fun j hj => ?_
        have hj' : j < i := List.mem_range.mp hj
        rw [List.getD_eq_getElem?_getD, List.getD_eq_getElem?_getD, List.getElem?_append_left (by omega)]
      · have : ((woR n s (p : Int)).take i ++ [r]).getD i [] = r := by
          rw [List.getD_eq_getElem?_getD, List.getElem?_append_right (by omega), htl, Nat.sub_self]; rfl
        by_cases hrr : r ∈ rs
        · rw [if_pos hrr, List.filter_cons_of_pos (by rw [this]; exact decide_eq_true hrr)]; rfl
        · rw [if_neg hrr, List.filter_cons_of_neg (by rw [this]; simpa using hrr)]; rfl
    have hwf : wholeF n s p rs ((woR n s (p : Int)).take (i + 1)) = if r ∈ rs then xorR n s (wholeF n s p rs ((woR n s (p : Int)).take i)) (bdR n s (up (p : Int) r)) else wholeF n s p rs ((woR n s (p : Int)).take i) := by
      unfold wholeF; rw [tkw, List.foldl_append]; rfl
    have hwo := hwok ((woR n s (p : Int)).take i)
    have hil : (idxF rs ((woR n s (p : Int)).take i)).length ≤ 20 := by
      unfold idxF; exact Nat.le_trans (List.length_filter_le _ _) (by rw [List.length_range]; omega)
    generalize wholeF n s p rs ((woR n s (p : Int)).take i) = W at hwf hwo ⊢
    generalize idxF rs ((woR n s (p : Int)).take i) = I at hidx hil ⊢
    refine step_name (sv_seq (sv_asg (d := room (up (p : Int) r)) (ev_cb (ea_cons (ev_cb (ea_cons (ev_is (ev_op (ev_op (ev_var rfl) (ev_var rfl) (rv_ixL (j := i) rfl hatD)) (ev_tup (ea_cons (ev_var rfl) ea_nil) (by simp)) (rv_catT (by simp; omega))) (d := room (r ++ [(p : Int)])) ?_) ea_nil) (rc_sortT (by simp; omega))) ea_nil) rc_tupL) ?_))
    · exact congrArg D.tup (by rw [List.map_append]; rfl)
    generalize hcc : up (p : Int) r = c at *
    refine sv_seq (sv_append (i := 7) (d := rooms (bdR n s c)) rfl (ev_cb (ea_cons (ev_is (ev_lcR (n := (s : Int) + 1) (fun _ => true) (fun d => match d with | .int i => room (c.eraseIdx i.toNat) | _ => .non) (ea_cons (ev_op (ev_var rfl) ev_int rv_I0) ea_nil) (by omega) (fun j hj => ?_)) (d := rooms (facesF c)) ?_) ea_nil) (rc_sortRL hsort)) (by rw [List.length_map]; omega) ?_)
    · refine cstep_name (by simp) et_yes (fun _ => ?_)
      refine ev_is (ev_op (ev_slT (ev_var rfl) eo_none (eo_some (ev_var rfl))) (ev_slT (ev_var rfl) (eo_some (ev_op (ev_var rfl) ev_int rv_I0)) eo_none) (rv_catT ?_)) ?_
      · rw [cut_take c j (by omega), cut_drop c _ (j + 1) (by omega) (by omega)]; simp; omega
      · show D.tup _ = D.tup _
        rw [cut_take c j (by omega), cut_drop c _ (j + 1) (by omega) (by omega), erase_eq]; rfl
    · show D.lst _ = D.lst _
      unfold lcRes upTo facesF
      have : ((s : Int) + 1).toNat = c.length := by omega
      rw [this, List.filter_eq_self.mpr (fun _ _ => rfl), List.map_map, List.map_map]
      exact congrArg _ (List.map_congr_left fun i _ => rfl)
    refine sv_seq (sv_append (i := 6) (d := bk n s (bdR n s c)) rfl (ev_call0 (ea_cons (ev_var rfl) (ea_cons (ev_var rfl) ea_nil)) ⟨n, s, c, hn, h1, hslt, hc, rfl, rfl⟩) (by rw [List.length_map]; omega) ?_)
    have ga : ∀ {α : Type} (g : List (List Int) → D), (((bksF n s p).take i).map g ++ [g (bdR n s c)])[i]? = some (g (bdR n s c)) := fun {α} g => by
      rw [List.getElem?_append_right (by rw [List.length_map]; omega), List.length_map, hbtl, Nat.sub_self]; rfl
    refine sv_seq (sv_if (et_not (et_B (ev_call0 (d := .bl true) (ea_cons (ev_ixM (i := 6) (j := i) rfl (ev_var rfl) rfl (ga (α := Unit) fun b => bk n s b)) (ea_cons (ev_var rfl) (ea_cons (ev_var rfl) (ea_cons (ev_ixM (i := 7) (j := i) rfl (ev_var rfl) rfl (ga (α := Unit) rooms)) ea_nil)))) ⟨n, s, bdR n s c, hbo c, by have := hbev r hmem; rw [hcc] at this; exact this, rfl, rfl⟩))) (fun z => by cases z) (fun _ => sv_next ?_))
    refine sv_if (et_test (ev_op (ev_op (ev_var rfl) (ev_var rfl) (rv_ixL (j := i) rfl hatD)) (ev_var rfl) rv_inDL)) (fun z => ?_) (fun z => sv_next ⟨.val (.int (i : Int)), .val (room c), s15, hi', ?_⟩)
    · have hrr : r ∈ rs := of_decide_eq_true z
      rw [if_pos hrr] at hidx hwf
      refine sv_seq (sv_append (i := 8) rfl (ev_var rfl) (by rw [List.length_map]; omega) ?_)
      refine sv_asg (ev_op (ev_var rfl) (ev_ixM (i := 6) (j := i) rfl (ev_var rfl) rfl (ga (α := Unit) fun b => bk n s b)) (rv_own ⟨n, s, W, bdR n s c, hwo, hbo c, rfl, rfl⟩)) ⟨.val (.int (i : Int)), .val (room c), s15, hi', ?_⟩
      rw [tkb, hidx, hwf]; simp [natD]
    · have hrr : ¬ r ∈ rs := of_decide_eq_false z
      rw [if_neg hrr] at hidx hwf
      rw [tkb, hidx, hwf]; simp
  · obtain ⟨s10, s14, s15, _, rfl⟩ := hI
    rw [Int.toNat_natCast, List.take_length, hwh, ← hbl, List.take_length]
    refine sv_freezeL (i := 6) rfl (sv_freezeL (i := 7) rfl (sv_freezeL (i := 8) rfl ?_))
    have his : rIs [bk n s rs, .int (n : Int), .int (s : Int), rooms rs] (.bl true) := ⟨n, s, rs, ok, hev, rfl, rfl⟩
    have hil : (idxF rs (woR n s (p : Int))).length ≤ 20 := by unfold idxF; exact Nat.le_trans (List.length_filter_le _ _) (by rw [List.length_range]; omega)
    refine sv_seq (sv_if (et_not (et_B (ev_call0 (d := .bl true) (ea_cons (ev_var rfl) (ea_cons (ev_var rfl) (ea_cons (ev_var rfl) (ea_cons (ev_var rfl) ea_nil)))) his))) (fun z => by cases z) (fun _ => sv_next ?_))
    refine sv_seq (sv_asg (ev_make (ea_cons (ev_var rfl) (ea_cons (ev_var rfl) (ea_cons (ev_var rfl) ea_nil))) (mk_sub hn h1 hsn ok.sub)) ?_)
    refine sv_seq (sv_asg (ev_make (ea_cons (ev_var rfl) (ea_cons (ev_var rfl) (ea_cons (ev_var rfl) ea_nil))) (mk_sub hn h1 hsn oks.sub)) ?_)
    refine sv_seq (sv_if (et_not (et_B (ev_call0 (d := .bl true) (ea_cons (ev_call0 (d := .tup [.str "sum", .tup ((idxF rs (woR n s (p : Int))).map natD)]) (ea_cons (ev_var rfl) (ea_cons (ev_var rfl) ea_nil)) ⟨n, s, rs, bksF n s p, ok, hbks, by omega, rfl, hs1, hs2.symm⟩) (ea_cons (ev_tup (ea_cons ev_str (ea_cons (ev_cb (ea_cons (ev_var rfl) ea_nil) rc_tupL) ea_nil)) (by simp)) ea_nil)) ⟨_, sz_tup (m := 4) (by simp) (fun d hd => ?_), rfl, rfl⟩))) (fun z => by cases z) (fun _ => sv_next ?_))
    · rcases List.mem_cons.mp hd with rfl | hd
      · exact sz_str _ _
      rcases List.mem_cons.mp hd with rfl | hd
      · exact sz_tup (m := 3) (by simp; omega) fun d hd => by obtain ⟨i, _, rfl⟩ := List.mem_map.mp hd; exact sz_int _ _
      cases hd
    refine sv_seq (sv_asg (ev_cb (ea_cons (ev_var rfl) ea_nil) rc_lenL) ?_)
    rw [List.length_map]
    refine sv_seq (sv_if (et_not (et_B (ev_call0 (d := .bl true) (ea_cons (ev_lst (ds := [.int ((bksF n s p).length : Nat), .int ((bksF n s p).length : Nat), .int (((bksF n s p).length : Nat) + 1 : Int)]) (ea_cons (ev_call0 (ea_cons (ev_var rfl) ea_nil) ⟨n, s, bksF n s p, hbks, by omega, rfl, by rw [rk1]⟩)
        (ea_cons (ev_call0 (ea_cons (ev_op (ev_var rfl) (ev_lst (ea_cons (ev_var rfl) ea_nil) (by simp)) (rv_catL (by simp; omega))) ea_nil) ⟨n, s, bksF n s p ++ [rs], hb2, by simp; omega, by rw [List.map_append]; rfl, by rw [rk2]⟩)
        (ea_cons (ev_call0 (ea_cons (ev_op (ev_lst (ea_cons (ev_var rfl) ea_nil) (by simp)) (ev_var rfl) (rv_catL (by simp; omega))) ea_nil) ⟨n, s, strange :: bksF n s p, hb3, by simp; omega, rfl, by rw [rk3]; rfl⟩) ea_nil))) (by simp))
      (ea_cons (ev_lst (ea_cons (ev_var rfl) (ea_cons (ev_var rfl) (ea_cons (ev_op (ev_var rfl) ev_int rv_I0) ea_nil))) (by simp)) ea_nil)) ⟨_, sz_lst (m := 4) (by simp) (fun d hd => ?_), rfl, rfl⟩))) (fun z => by cases z) (fun _ => sv_next ?_))
    · rcases List.mem_cons.mp hd with rfl | hd
      · exact sz_int _ _
      rcases List.mem_cons.mp hd with rfl | hd
      · exact sz_int _ _
      rcases List.mem_cons.mp hd with rfl | hd
      · exact sz_int _ _
      cases hd
    refine sv_ret (ev_is (ev_and (b' := true) (ev_op (ev_cb (ea_cons (ev_var rfl) ea_nil) rc_lenL) (ev_var rfl) rv_eqI) (fun _ => ev_call0 (ea_cons (ev_call0 (d := .tup [.str "test", trooms ts]) (ea_cons (ev_var rfl) (ea_cons (ev_var rfl) ea_nil)) ⟨n, s, strange, bksF n s p, oks, hbks, by omega, rfl, ht1, ht2.symm⟩) (ea_cons (ev_var rfl) (ea_cons (ev_var rfl) (ea_cons (ev_var rfl) (ea_cons (ev_var rfl) ea_nil))))) ⟨n, s, ts, strange, bksF n s p, oks, hbks, by omega, htest, rfl, rfl⟩)) ?_) rfl
    rw [List.length_map]; simp
end
end NA

set_option Elab.async false
set_option linter.all false
set_option maxRecDepth 100000
set_option maxHeartbeats 4000000
set_option autoImplicit false
namespace NA
/-! ### sums of truth values -/
def xsum (l : List Bool) : Bool := l.foldr (· ^^ ·) false
theorem xsum_nil : xsum [] = false := rfl
theorem xsum_cons (a : Bool) (l : List Bool) : xsum (a :: l) = (a ^^ xsum l) := rfl
theorem xsum_append (a b : List Bool) : xsum (a ++ b) = (xsum a ^^ xsum b) := by
  induction a with
  | nil => simp [xsum_nil]
  | cons x a ih => rw [List.cons_append, xsum_cons, xsum_cons, ih, Bool.xor_assoc]
section
variable {α β : Type}
theorem xsum_xor (f g : α → Bool) (l : List α) : xsum (l.map fun a => f a ^^ g a) = (xsum (l.map f) ^^ xsum (l.map g)) := by
  induction l with
  | nil => rfl
  | cons x a ih =>
    simp only [List.map_cons, xsum_cons, ih]
    cases f x <;> cases g x <;> cases xsum (a.map f) <;> cases xsum (a.map g) <;> rfl
theorem xsum_and (c : Bool) (f : α → Bool) (l : List α) : xsum (l.map fun a => c && f a) = (c && xsum (l.map f)) := by
  induction l with
  | nil => cases c <;> rfl
  | cons x a ih =>
    simp only [List.map_cons, xsum_cons, ih]
    cases c <;> simp
theorem xsum_false {f : α → Bool} {l : List α} (h : ∀ a ∈ l, f a = false) : xsum (l.map f) = false := by
  induction l with
  | nil => rfl
  | cons x a ih => rw [List.map_cons, xsum_cons, h x List.mem_cons_self, ih fun b hb => h b (List.mem_cons_of_mem _ hb)]; rfl
theorem xsum_swap (f : α → β → Bool) (l : List α) (m : List β) : xsum (l.map fun a => xsum (m.map fun b => f a b)) = xsum (m.map fun b => xsum (l.map fun a => f a b)) := by
  induction l with
  | nil => exact (xsum_false fun b _ => rfl).symm
  | cons x a ih => simp only [List.map_cons, xsum_cons, ih, xsum_xor]
theorem xsum_congr {f g : α → Bool} {l : List α} (h : ∀ a ∈ l, f a = g a) : xsum (l.map f) = xsum (l.map g) := by rw [List.map_congr_left h]
theorem xsum_filter (f q : α → Bool) (l : List α) : xsum ((l.filter q).map f) = xsum (l.map fun a => q a && f a) := by
  induction l with
  | nil => rfl
  | cons x a ih =>
    rw [List.map_cons, xsum_cons, ← ih]
    cases h : q x
    · rw [List.filter_cons_of_neg (by simp [h])]; simp
    · rw [List.filter_cons_of_pos h, List.map_cons, xsum_cons]; simp
theorem xsum_perm {a b : List Bool} (h : a.Perm b) : xsum a = xsum b := by
  induction h with
  | nil => rfl
  | cons x _ ih => rw [xsum_cons, xsum_cons, ih]
  | swap x y l => simp only [xsum_cons]; cases x <;> cases y <;> cases xsum l <;> rfl
  | trans _ _ h1 h2 => exact h1.trans h2
theorem xsum_len (q : α → Bool) (l : List α) : xsum (l.map q) = decide ((l.filter q).length % 2 = 1) := by
  induction l with
  | nil => rfl
  | cons x a ih =>
    rw [List.map_cons, xsum_cons, ih]
    cases h : q x
    · rw [List.filter_cons_of_neg (by simp [h])]; simp
    · rw [List.filter_cons_of_pos h, List.length_cons]
      have : (a.filter q).length % 2 = 0 ∨ (a.filter q).length % 2 = 1 := by omega
      rcases this with e | e
      · have e2 : ((a.filter q).length + 1) % 2 = 1 := by omega
        rw [e, e2]; rfl
      · have e2 : ((a.filter q).length + 1) % 2 = 0 := by omega
        rw [e, e2]; rfl
theorem xsum_one [DecidableEq α] {l : List α} (nd : l.Nodup) (x : α) : xsum (l.map fun a => decide (a = x)) = decide (x ∈ l) := by
  induction l with
  | nil => rfl
  | cons y a ih =>
    obtain ⟨h1, h2⟩ := List.nodup_cons.mp nd
    rw [List.map_cons, xsum_cons, ih h2]
    by_cases h : y = x
    · subst h; simp [h1]
    · have h' : ¬ x = y := fun z => h z.symm
      simp [h, h']
end
/-! ### bits -/
theorem and_pow (x k : Nat) : x &&& 2 ^ k = (x.testBit k).toNat * 2 ^ k := Nat.eq_of_testBit_eq fun j => by
  rw [Nat.testBit_and, Nat.testBit_two_pow]
  cases h : x.testBit k
  · simp
    rintro h2 rfl; rw [h] at h2; cases h2
  · simp only [Bool.toNat_true, Nat.one_mul, Nat.testBit_two_pow]
    by_cases e : k = j
    · subst e; simp [h]
    · simp [e]
theorem and_pow0 (x k : Nat) : x &&& 2 ^ k = 0 ↔ x.testBit k = false := by
  rw [and_pow]
  have := Nat.two_pow_pos k
  cases x.testBit k
  · simp
  · simp
theorem and_pow1 (x k : Nat) : x &&& 2 ^ k ≠ 0 ↔ x.testBit k = true := by
  rw [Ne, and_pow0]; simp
theorem add_pow : ∀ (k x : Nat), x.testBit k = false → 2 ^ k + x = 2 ^ k ^^^ x
  | 0, x, h => by
    have h0 : x % 2 = 0 := by
      rw [Nat.testBit_zero] at h
      have := of_decide_eq_false h; omega
    refine Nat.eq_of_testBit_eq fun j => ?_
    rw [Nat.testBit_xor]
    cases j with
    | zero => simp only [Nat.testBit_zero]; have : (2 ^ 0 + x) % 2 = 1 := by omega
              rw [this, h0]; rfl
    | succ j =>
      rw [Nat.testBit_succ, Nat.testBit_succ, Nat.testBit_succ]
      have : (2 ^ 0 + x) / 2 = x / 2 := by omega
      rw [this]; simp
  | k + 1, x, h => by
    rw [Nat.testBit_succ] at h
    have ih := add_pow k (x / 2) h
    refine Nat.eq_of_testBit_eq fun j => ?_
    rw [Nat.testBit_xor]
    cases j with
    | zero =>
      simp only [Nat.testBit_zero]
      have e : (2 ^ (k + 1) + x) % 2 = x % 2 := by rw [Nat.pow_succ]; omega
      have e2 : 2 ^ (k + 1) % 2 = 0 := by rw [Nat.pow_succ]; omega
      rw [e, e2]; simp
    | succ j =>
      rw [Nat.testBit_succ, Nat.testBit_succ, Nat.testBit_succ]
      have e : (2 ^ (k + 1) + x) / 2 = 2 ^ k + x / 2 := by rw [Nat.pow_succ]; omega
      have e2 : 2 ^ (k + 1) / 2 = 2 ^ k := by rw [Nat.pow_succ]; omega
      rw [e, e2, ih, Nat.testBit_xor]
def IsPow (p : Nat) : Prop := ∃ k, p = 2 ^ k
theorem pow_bit (k j : Nat) : (2 ^ k).testBit j = decide (k = j) := Nat.testBit_two_pow
theorem pow_inj {k j : Nat} : (2 ^ k = 2 ^ j) ↔ k = j := ⟨fun h => by
  have h1 := pow_bit k j
  have h2 := pow_bit j j
  rw [h, h2] at h1
  simpa using h1.symm, fun h => by rw [h]⟩
theorem and_pp (k j : Nat) : decide (2 ^ k &&& 2 ^ j ≠ 0) = decide (2 ^ j = 2 ^ k) := by
  rw [decide_eq_decide, and_pow1, pow_bit, pow_inj, decide_eq_true_eq]; exact ⟨fun h => h.symm, fun h => h.symm⟩
theorem and_xor_pow {p : Nat} (hp : IsPow p) (a b : Nat) : decide ((a ^^^ b) &&& p ≠ 0) = (decide (a &&& p ≠ 0) ^^ decide (b &&& p ≠ 0)) := by
  obtain ⟨k, rfl⟩ := hp
  have e : ∀ x : Nat, decide (x &&& 2 ^ k ≠ 0) = x.testBit k := fun x => by
    rw [Bool.eq_iff_iff, decide_eq_true_eq]; exact and_pow1 x k
  rw [e, e, e, Nat.testBit_xor]
theorem sum_pows : ∀ {P : List Nat}, P.Nodup → (∀ p ∈ P, IsPow p) → ∀ j, P.sum.testBit j = decide (2 ^ j ∈ P)
  | [], _, _, j => by simp
  | p :: P, nd, h, j => by
    obtain ⟨h1, h2⟩ := List.nodup_cons.mp nd
    obtain ⟨k, rfl⟩ := h _ List.mem_cons_self
    have ih := sum_pows h2 fun q hq => h q (List.mem_cons_of_mem _ hq)
    have h0 : P.sum.testBit k = false := by rw [ih]; simpa using h1
    rw [List.sum_cons, add_pow k _ h0, Nat.testBit_xor, ih, pow_bit]
    by_cases e : k = j
    · subst e; simp [h1]
    · have e2 : ¬ 2 ^ j = 2 ^ k := fun z => e (pow_inj.mp z).symm
      simp [e, e2]
theorem low_two (m : Nat) (h : m ≠ 0) : low (2 * m) = 2 * low m := by
  unfold low
  have e : 2 * m &&& (2 * m - 1) = 2 * (m &&& (m - 1)) := by
    refine Nat.eq_of_testBit_eq fun j => ?_
    rw [Nat.testBit_and]
    cases j with
    | zero => simp [Nat.testBit_zero]
    | succ j =>
      rw [Nat.testBit_succ, Nat.testBit_succ, Nat.testBit_succ]
      have e1 : 2 * m / 2 = m := by omega
      have e2 : (2 * m - 1) / 2 = m - 1 := by omega
      have e3 : 2 * (m &&& (m - 1)) / 2 = m &&& (m - 1) := by omega
      rw [e1, e2, e3, Nat.testBit_and]
  rw [e]; omega
theorem low_odd (m : Nat) : low (2 * m + 1) = 1 := by
  unfold low
  have e : (2 * m + 1) &&& (2 * m + 1 - 1) = 2 * m := by
    refine Nat.eq_of_testBit_eq fun j => ?_
    rw [Nat.testBit_and]
    cases j with
    | zero => simp [Nat.testBit_zero]
    | succ j =>
      rw [Nat.testBit_succ, Nat.testBit_succ, Nat.testBit_succ]
      have e1 : (2 * m + 1) / 2 = m := by omega
      have e2 : (2 * m + 1 - 1) / 2 = m := by omega
      have e3 : 2 * m / 2 = m := by omega
      rw [e1, e2, e3]; simp
  rw [e]; omega
theorem low_pow : ∀ n : Nat, n ≠ 0 → ∃ k, low n = 2 ^ k ∧ n.testBit k = true := by
  intro n
  induction n using Nat.strongRecOn with
  | _ n ih =>
    intro h
    by_cases hp : n % 2 = 1
    · refine ⟨0, ?_, by rw [Nat.testBit_zero]; exact decide_eq_true hp⟩
      have : n = 2 * (n / 2) + 1 := by omega
      rw [this, low_odd]
    · have e : n = 2 * (n / 2) := by omega
      obtain ⟨k, h1, h2⟩ := ih (n / 2) (by omega) (by omega)
      refine ⟨k + 1, ?_, by rw [Nat.testBit_succ]; exact h2⟩
      rw [e, low_two _ (by omega), h1, Nat.pow_succ]; omega
/-! ### the basis -/
def part (b : Nat × Nat × Nat) (v : Nat) : Nat := if v &&& b.1 = 0 then 0 else b.2.1
def partM (b : Nat × Nat × Nat) (v : Nat) : Nat := if v &&& b.1 = 0 then 0 else b.2.2
def Rb : List (Nat × Nat × Nat) → Nat → Nat
  | [], _ => 0
  | b :: bs, v => part b v ^^^ Rb bs v
def Mb : List (Nat × Nat × Nat) → Nat → Nat
  | [], _ => 0
  | b :: bs, v => partM b v ^^^ Mb bs v
structure Red (bs : List (Nat × Nat × Nat)) : Prop where
  own : ∀ b ∈ bs, IsPow b.1 ∧ b.2.1 &&& b.1 ≠ 0
  off : bs.Pairwise fun b c => b.2.1 &&& c.1 = 0 ∧ c.2.1 &&& b.1 = 0
theorem and_xor0 {a b c : Nat} (h : b &&& c = 0) : (a ^^^ b) &&& c = a &&& c := by rw [Nat.and_xor_distrib_right, h, Nat.xor_zero]
theorem Rb_off {bs : List (Nat × Nat × Nat)} {e : Nat} (h : ∀ c ∈ bs, e &&& c.1 = 0) (x : Nat) : Rb bs (x ^^^ e) = Rb bs x ∧ Mb bs (x ^^^ e) = Mb bs x := by
  induction bs with
  | nil => exact ⟨rfl, rfl⟩
  | cons b bs ih =>
    obtain ⟨h1, h2⟩ := ih fun c hc => h c (List.mem_cons_of_mem _ hc)
    simp only [Rb, Mb, part, partM, h1, h2, and_xor0 (h b List.mem_cons_self)]
    exact ⟨trivial, trivial⟩
theorem wp_eq : ∀ {bs : List (Nat × Nat × Nat)}, (bs.Pairwise fun b c => b.2.1 &&& c.1 = 0 ∧ c.2.1 &&& b.1 = 0) → ∀ x a, bs.foldl stepW (x, a) = (x ^^^ Rb bs x, a ^^^ Mb bs x)
  | [], _, x, a => by simp [Rb, Mb]
  | b :: bs, h, x, a => by
    obtain ⟨h1, h2⟩ := List.pairwise_cons.mp h
    rw [List.foldl_cons]
    by_cases hx : x &&& b.1 = 0
    · have e : stepW (x, a) b = (x, a) := if_pos hx
      rw [e, wp_eq h2]
      simp [Rb, Mb, part, partM, hx]
    · have e : stepW (x, a) b = (x ^^^ b.2.1, a ^^^ b.2.2) := if_neg hx
      rw [e, wp_eq h2]
      obtain ⟨e1, e2⟩ := Rb_off (e := b.2.1) (fun c hc => (h1 c hc).1) x
      simp only [Rb, Mb, part, partM, hx, if_false, e1, e2]
      rw [Nat.xor_assoc, Nat.xor_assoc]
theorem Red.wp {bs : List (Nat × Nat × Nat)} (h : Red bs) (m : Nat) : wpF bs m = (m ^^^ Rb bs m, Mb bs m) := by
  unfold wpF; rw [wp_eq h.off, Nat.zero_xor]
theorem and_self_pow {p x : Nat} (hp : IsPow p) (h : x &&& p ≠ 0) : x &&& p = p := by
  obtain ⟨k, rfl⟩ := hp
  rw [and_pow, (and_pow1 x k).mp h]; simp
theorem Rb_none {bs : List (Nat × Nat × Nat)} {p : Nat} (h : ∀ c ∈ bs, c.2.1 &&& p = 0) (v : Nat) : Rb bs v &&& p = 0 := by
  induction bs with
  | nil => simp [Rb]
  | cons b bs ih =>
    have h1 : part b v &&& p = 0 := by
      unfold part; split
      · simp
      · exact h b List.mem_cons_self
    simp only [Rb]
    rw [Nat.and_xor_distrib_right, h1, ih fun c hc => h c (List.mem_cons_of_mem _ hc)]; rfl
theorem Rb_piv : ∀ {bs : List (Nat × Nat × Nat)}, Red bs → ∀ v, ∀ b ∈ bs, Rb bs v &&& b.1 = v &&& b.1
  | [], _, v, b, hb => by cases hb
  | c :: bs, h, v, b, hb => by
    obtain ⟨o1, o2⟩ := List.pairwise_cons.mp h.off
    simp only [Rb]
    rw [Nat.and_xor_distrib_right]
    rcases List.mem_cons.mp hb with e | hb
    · subst e
      rw [Rb_none fun c hc => (o1 c hc).2, Nat.xor_zero]
      unfold part
      obtain ⟨hp, hne⟩ := h.own b List.mem_cons_self
      split
      · rename_i hv; rw [hv]; simp
      · rename_i hv; rw [and_self_pow hp hv, and_self_pow hp hne]
    · rw [Rb_piv ⟨fun d hd => h.own d (List.mem_cons_of_mem _ hd), o2⟩ v b hb]
      have : part c v &&& b.1 = 0 := by
        unfold part; split
        · simp
        · exact (o1 b hb).1
      rw [this, Nat.zero_xor]
theorem Red.rest0 {bs : List (Nat × Nat × Nat)} (h : Red bs) (v : Nat) {b : Nat × Nat × Nat} (hb : b ∈ bs) : (v ^^^ Rb bs v) &&& b.1 = 0 := by
  rw [Nat.and_xor_distrib_right, Rb_piv h v b hb, Nat.xor_self]
theorem part_xor {b : Nat × Nat × Nat} (hp : IsPow b.1) (v w : Nat) : part b (v ^^^ w) = part b v ^^^ part b w := by
  have := and_xor_pow hp v w
  unfold part
  by_cases h1 : v &&& b.1 = 0 <;> by_cases h2 : w &&& b.1 = 0 <;> simp [h1, h2] at this ⊢ <;> simp [this]
theorem Rb_xor {bs : List (Nat × Nat × Nat)} (h : ∀ b ∈ bs, IsPow b.1) (v w : Nat) : Rb bs (v ^^^ w) = Rb bs v ^^^ Rb bs w := by
  induction bs with
  | nil => simp [Rb]
  | cons b bs ih =>
    simp only [Rb, part_xor (h b List.mem_cons_self), ih fun c hc => h c (List.mem_cons_of_mem _ hc)]
    ac_rfl
theorem Rb_zero (bs : List (Nat × Nat × Nat)) : Rb bs 0 = 0 := by
  induction bs with
  | nil => rfl
  | cons b bs ih => simp [Rb, part, ih]
theorem Rb_snoc (bs : List (Nat × Nat × Nat)) (b : Nat × Nat × Nat) (v : Nat) : Rb (bs ++ [b]) v = Rb bs v ^^^ part b v := by
  induction bs with
  | nil => simp [Rb]
  | cons c bs ih => simp only [List.cons_append, Rb, ih, Nat.xor_assoc]
/-- what the new entry takes away -/
def sc (rho x : Nat) : Nat := if x &&& low rho = 0 then 0 else rho
theorem sc_xor {rho : Nat} (h : rho ≠ 0) (x y : Nat) : sc rho (x ^^^ y) = sc rho x ^^^ sc rho y := by
  obtain ⟨k, h1, h2⟩ := low_pow rho h
  exact part_xor (b := (low rho, rho, 0)) ⟨k, h1⟩ x y
theorem sc_zero (rho : Nat) : sc rho 0 = 0 := by unfold sc; simp
theorem sc_self {rho : Nat} (h : rho ≠ 0) : sc rho rho = rho := by
  obtain ⟨k, h1, h2⟩ := low_pow rho h
  unfold sc
  rw [if_neg (by rw [h1]; exact (and_pow1 rho k).mpr h2)]
theorem Rb_red {rho : Nat} (h : rho ≠ 0) (wh : Nat) (bs : List (Nat × Nat × Nat)) (v : Nat) : Rb (bs.map (redB rho wh)) v = Rb bs v ^^^ sc rho (Rb bs v) := by
  induction bs with
  | nil => simp [Rb, sc_zero]
  | cons b bs ih =>
    have e : part (redB rho wh b) v = part b v ^^^ sc rho (part b v) := by
      unfold redB
      by_cases hb : b.2.1 &&& low rho = 0
      · rw [if_pos hb]
        unfold part
        split
        · rw [sc_zero, Nat.xor_zero]
        · unfold sc; rw [if_pos hb, Nat.xor_zero]
      · rw [if_neg hb]
        unfold part
        dsimp only
        split
        · rw [sc_zero, Nat.xor_zero]
        · unfold sc; rw [if_neg hb]
    simp only [List.map_cons, Rb, ih, e, sc_xor h]
    ac_rfl
theorem Rb_step {rho : Nat} (h : rho ≠ 0) (wh : Nat) (bs : List (Nat × Nat × Nat)) (v : Nat) : Rb (bs.map (redB rho wh) ++ [(low rho, rho, wh)]) v = Rb bs v ^^^ sc rho (Rb bs v ^^^ v) := by
  rw [Rb_snoc, Rb_red h, sc_xor h, Nat.xor_assoc]; rfl
theorem redB_1 (rho wh : Nat) (b : Nat × Nat × Nat) : (redB rho wh b).1 = b.1 := by unfold redB; split <;> rfl
theorem redB_2 (rho wh : Nat) (b : Nat × Nat × Nat) : (redB rho wh b).2.1 = b.2.1 ^^^ sc rho b.2.1 := by
  unfold redB sc; split
  · rw [Nat.xor_zero]
  · rfl
theorem redB_3 (rho wh : Nat) (b : Nat × Nat × Nat) : (redB rho wh b).2.2 = b.2.2 ^^^ (if b.2.1 &&& low rho = 0 then 0 else wh) := by
  unfold redB; split
  · rw [Nat.xor_zero]
  · rfl
theorem sc_and {rho p : Nat} (h : rho &&& p = 0) (x : Nat) : sc rho x &&& p = 0 := by unfold sc; split <;> simp [h]
theorem Red.step {bs : List (Nat × Nat × Nat)} (h : Red bs) {rho : Nat} (hr : rho ≠ 0) (h0 : ∀ b ∈ bs, rho &&& b.1 = 0) (wh : Nat) : Red (bs.map (redB rho wh) ++ [(low rho, rho, wh)]) := by
  obtain ⟨k, h1, h2⟩ := low_pow rho hr
  have hk : rho &&& low rho ≠ 0 := by rw [h1]; exact (and_pow1 rho k).mpr h2
  refine ⟨fun b hb => ?_, ?_⟩
  · rcases List.mem_append.mp hb with hb | hb
    · obtain ⟨c, hc, rfl⟩ := List.mem_map.mp hb
      rw [redB_1, redB_2]
      exact ⟨(h.own c hc).1, by rw [and_xor0 (sc_and (h0 c hc) _)]; exact (h.own c hc).2⟩
    · have : b = (low rho, rho, wh) := by simpa using hb
      subst this
      exact ⟨⟨k, h1⟩, hk⟩
  · refine List.pairwise_append.mpr ⟨List.pairwise_map.mpr (h.off.imp_of_mem fun {a b} ha hb q => ?_), List.pairwise_singleton _ _, fun b hb c hc => ?_⟩
    · rw [redB_1, redB_1, redB_2, redB_2, and_xor0 (sc_and (h0 b hb) _), and_xor0 (sc_and (h0 a ha) _)]; exact q
    · have : c = (low rho, rho, wh) := by simpa using hc
      subst this
      obtain ⟨d, hd, rfl⟩ := List.mem_map.mp hb
      rw [redB_1, redB_2]
      refine ⟨?_, h0 d hd⟩
      dsimp only
      unfold sc
      split
      · rename_i z; rw [Nat.xor_zero, z]
      · rename_i z
        rw [Nat.and_xor_distrib_right, and_self_pow ⟨k, h1⟩ z, and_self_pow ⟨k, h1⟩ hk, Nat.xor_self]
/-! ### sums of the masks -/
def cmbN : List Nat → Nat → Nat
  | [], _ => 0
  | m :: ms, M => (if M % 2 = 1 then m else 0) ^^^ cmbN ms (M / 2)
theorem cmbN_zero : ∀ ms : List Nat, cmbN ms 0 = 0
  | [] => rfl
  | m :: ms => by simp only [cmbN]; rw [show 0 / 2 = 0 from rfl, cmbN_zero ms]; simp
theorem cmbN_xor : ∀ (ms : List Nat) (M M' : Nat), cmbN ms (M ^^^ M') = cmbN ms M ^^^ cmbN ms M'
  | [], _, _ => by simp [cmbN]
  | m :: ms, M, M' => by
    have e : (M ^^^ M') / 2 = (M / 2) ^^^ (M' / 2) := Nat.eq_of_testBit_eq fun j => by
      rw [← Nat.testBit_succ, Nat.testBit_xor, Nat.testBit_succ, Nat.testBit_succ, ← Nat.testBit_xor]
    have e2 : (if (M ^^^ M') % 2 = 1 then m else 0) = (if M % 2 = 1 then m else 0) ^^^ (if M' % 2 = 1 then m else 0) := by
      have h := Nat.testBit_xor M M' 0
      rw [Nat.testBit_zero, Nat.testBit_zero, Nat.testBit_zero] at h
      by_cases h1 : M % 2 = 1 <;> by_cases h2 : M' % 2 = 1 <;> simp only [h1, h2, decide_true, decide_false, Bool.xor_self, Bool.xor_false, Bool.xor_true, Bool.not_false, decide_eq_true_eq, decide_eq_false_iff_not, if_true, if_false] at h ⊢ <;> simp [h]
    simp only [cmbN, e, e2, cmbN_xor ms]
    ac_rfl
theorem cmbN_snoc (x : Nat) : ∀ (ms : List Nat) (M : Nat), cmbN (ms ++ [x]) M = cmbN ms M ^^^ (if M.testBit ms.length then x else 0)
  | [], M => by
    simp only [List.nil_append, cmbN, List.length_nil, Nat.testBit_zero]
    simp
  | m :: ms, M => by
    simp only [List.cons_append, cmbN, cmbN_snoc x ms, List.length_cons, Nat.testBit_succ, Nat.xor_assoc]
theorem bit_lt {M n : Nat} (h : M < 2 ^ n) : M.testBit n = false := Nat.testBit_lt_two_pow h
structure Inv (ms : List Nat) (x : List (Nat × Nat × Nat) × Nat) : Prop where
  mem : x.2 = 2 ^ ms.length
  red : Red x.1
  ent : ∀ b ∈ x.1, b.2.1 = cmbN ms b.2.2 ∧ b.2.2 < 2 ^ ms.length
  fix : ∀ m ∈ ms, Rb x.1 m = m
theorem Mb_cmb {bs : List (Nat × Nat × Nat)} {ms : List Nat} (h : ∀ b ∈ bs, b.2.1 = cmbN ms b.2.2 ∧ b.2.2 < 2 ^ ms.length) (v : Nat) : cmbN ms (Mb bs v) = Rb bs v ∧ Mb bs v < 2 ^ ms.length := by
  induction bs with
  | nil => exact ⟨cmbN_zero ms, Nat.two_pow_pos _⟩
  | cons b bs ih =>
    obtain ⟨h1, h2⟩ := ih fun c hc => h c (List.mem_cons_of_mem _ hc)
    obtain ⟨e1, e2⟩ := h b List.mem_cons_self
    simp only [Mb, Rb, cmbN_xor, h1]
    unfold partM part
    split
    · rw [cmbN_zero, Nat.zero_xor, Nat.zero_xor]; exact ⟨rfl, h2⟩
    · exact ⟨by rw [e1], Nat.xor_lt_two_pow e2 h2⟩
theorem cmbN_grow {ms : List Nat} {x M : Nat} (h : M < 2 ^ ms.length) : cmbN (ms ++ [x]) M = cmbN ms M := by
  rw [cmbN_snoc, bit_lt h]; simp
theorem cmbN_new (ms : List Nat) (x : Nat) : cmbN (ms ++ [x]) (2 ^ ms.length) = x := by
  rw [cmbN_snoc, pow_bit]
  have : ∀ (ms : List Nat), cmbN ms (2 ^ ms.length) = 0 := fun ms => by
    induction ms with
    | nil => rfl
    | cons m ms ih =>
      simp only [cmbN, List.length_cons]
      have e1 : 2 ^ (ms.length + 1) % 2 = 0 := by rw [Nat.pow_succ]; omega
      have e2 : 2 ^ (ms.length + 1) / 2 = 2 ^ ms.length := by rw [Nat.pow_succ]; omega
      rw [e2, ih, if_neg (by omega)]; rfl
  rw [this]; simp
theorem inv : ∀ ms : List Nat, Inv ms (fbG ms) := fun ms => by
  refine snoc_ind (M := fun ms => Inv ms (fbG ms)) ⟨rfl, ⟨fun b hb => (by cases hb), .nil⟩, fun b hb => (by cases hb), fun m hm => (by cases hm)⟩ (fun ms m ih => ?_) ms
  rw [fbG_snoc]
  obtain ⟨h1, h2, h3, h4⟩ := ih
  generalize fbG ms = x at h1 h2 h3 h4 ⊢
  obtain ⟨bs, mem⟩ := x
  dsimp only at h1 h2 h3 h4
  unfold fbStep
  dsimp only
  rw [h2.wp]
  dsimp only
  have hlt : (2 : Nat) ^ (ms ++ [m]).length = 2 ^ ms.length * 2 := by rw [List.length_append, ← Nat.pow_succ]; rfl
  have h3' : ∀ b ∈ bs, b.2.1 = cmbN (ms ++ [m]) b.2.2 ∧ b.2.2 < 2 ^ (ms ++ [m]).length := fun b hb => by
    obtain ⟨e1, e2⟩ := h3 b hb
    exact ⟨by rw [cmbN_grow e2, e1], by rw [hlt]; omega⟩
  have hmem : mem * 2 = 2 ^ (ms ++ [m]).length := by rw [hlt, h1]
  split
  · rename_i hz
    refine ⟨hmem, h2, h3', fun v hv => ?_⟩
    rcases List.mem_append.mp hv with hv | hv
    · exact h4 v hv
    · have : v = m := by simpa using hv
      subst this
      have := congrArg (v ^^^ ·) hz
      simp only [Nat.xor_zero] at this
      rw [← Nat.xor_assoc, Nat.xor_self, Nat.zero_xor] at this
      exact this
  · rename_i hz
    obtain ⟨k, hk1, hk2⟩ := low_pow _ hz
    refine ⟨hmem, h2.step hz (fun b hb => h2.rest0 m hb) _, fun b hb => ?_, fun v hv => ?_⟩
    · obtain ⟨m1, m2⟩ := Mb_cmb h3 m
      have hwh : cmbN (ms ++ [m]) (Mb bs m ^^^ mem) = m ^^^ Rb bs m := by
        rw [cmbN_xor, cmbN_grow m2, m1, h1, cmbN_new, Nat.xor_comm]
      have hwl : Mb bs m ^^^ mem < 2 ^ (ms ++ [m]).length := by
        refine Nat.xor_lt_two_pow ?_ ?_
        · rw [hlt]; omega
        · rw [hlt, h1]; have := Nat.two_pow_pos ms.length; omega
      rcases List.mem_append.mp hb with hb | hb
      · obtain ⟨c, hc, rfl⟩ := List.mem_map.mp hb
        obtain ⟨e1, e2⟩ := h3' c hc
        rw [redB_2, redB_3, cmbN_xor, ← e1]
        refine ⟨?_, Nat.xor_lt_two_pow e2 ?_⟩
        · unfold sc
          split
          · rw [cmbN_zero]
          · rw [hwh]
        · split
          · exact Nat.two_pow_pos _
          · exact hwl
      · have : b = (low (m ^^^ Rb bs m), m ^^^ Rb bs m, Mb bs m ^^^ mem) := by simpa using hb
        subst this
        exact ⟨hwh.symm, hwl⟩
    · rw [Rb_step hz]
      rcases List.mem_append.mp hv with hv | hv
      · rw [h4 v hv, Nat.xor_self, sc_zero, Nat.xor_zero]
      · have : v = m := by simpa using hv
        subst this
        rw [Nat.xor_comm (Rb bs v) v, sc_self hz, Nat.xor_comm v, ← Nat.xor_assoc, Nat.xor_self, Nat.zero_xor]
/-! ### what follows -/
theorem wp_lt (ms : List Nat) (m : Nat) : (wpF (fbF ms) m).2 < 2 ^ ms.length := by
  unfold fbF; rw [(inv ms).red.wp]; exact (Mb_cmb (inv ms).ent m).2
theorem wp_sum (ms : List Nat) (m : Nat) : cmbN ms (wpF (fbF ms) m).2 = m ^^^ (wpF (fbF ms) m).1 := by
  unfold fbF; rw [(inv ms).red.wp]
  show cmbN ms (Mb _ m) = m ^^^ (m ^^^ _)
  rw [(Mb_cmb (inv ms).ent m).1, ← Nat.xor_assoc, Nat.xor_self, Nat.zero_xor]
theorem Rb_cmb {bs : List (Nat × Nat × Nat)} (hp : ∀ b ∈ bs, IsPow b.1) : ∀ {ms : List Nat}, (∀ m ∈ ms, Rb bs m = m) → ∀ M, Rb bs (cmbN ms M) = cmbN ms M
  | [], _, M => Rb_zero bs
  | m :: ms, h, M => by
    simp only [cmbN]
    rw [Rb_xor hp, Rb_cmb hp fun v hv => h v (List.mem_cons_of_mem _ hv)]
    split
    · rw [h m List.mem_cons_self]
    · rw [Rb_zero]
theorem wp_zero (ms : List Nat) (M : Nat) : (wpF (fbF ms) (cmbN ms M)).1 = 0 := by
  unfold fbF; rw [(inv ms).red.wp]
  show _ ^^^ _ = 0
  rw [Rb_cmb (fun b hb => ((inv ms).red.own b hb).1) (inv ms).fix, Nat.xor_self]
/-- a linear test of masks -/
structure Lin (φ : Nat → Bool) : Prop where
  zero : φ 0 = false
  xor : ∀ a b, φ (a ^^^ b) = (φ a ^^ φ b)
theorem Lin.cmb {φ : Nat → Bool} (h : Lin φ) : ∀ {ms : List Nat}, (∀ m ∈ ms, φ m = false) → ∀ M, φ (cmbN ms M) = false
  | [], _, M => h.zero
  | m :: ms, hm, M => by
    simp only [cmbN]
    rw [h.xor, Lin.cmb h fun v hv => hm v (List.mem_cons_of_mem _ hv)]
    split
    · rw [hm m List.mem_cons_self]; rfl
    · rw [h.zero]; rfl
theorem lin_bit (k : Nat) : Lin fun x => x.testBit k := ⟨Nat.zero_testBit k, fun a b => Nat.testBit_xor a b k⟩
theorem Lin.add {φ ψ : Nat → Bool} (h : Lin φ) (h' : Lin ψ) (c : Bool) : Lin fun x => φ x ^^ (c && ψ x) :=
  ⟨by simp [h.zero, h'.zero], fun a b => by rw [h.xor, h'.xor]; cases φ a <;> cases φ b <;> cases ψ a <;> cases ψ b <;> cases c <;> rfl⟩
theorem lin_sum {α : Type} (l : List α) (c : α → Bool) (k : α → Nat) : Lin fun x => xsum (l.map fun a => c a && x.testBit (k a)) :=
  ⟨xsum_false fun a _ => by simp, fun x y => by
    rw [← xsum_xor]
    refine xsum_congr fun a _ => ?_
    rw [Nat.testBit_xor]; cases c a <;> simp⟩
theorem wp_ne {ms : List Nat} {m : Nat} {φ : Nat → Bool} (h : Lin φ) (h0 : ∀ x ∈ ms, φ x = false) (h1 : φ m = true) : (wpF (fbF ms) m).1 ≠ 0 := fun z => by
  have e := wp_sum ms m
  rw [z, Nat.xor_zero] at e
  have := h.cmb h0 (wpF (fbF ms) m).2
  rw [e, h1] at this; cases this
theorem fb_len_snoc (ms : List Nat) (m : Nat) : (fbF (ms ++ [m])).length = (fbF ms).length + (if (wpF (fbF ms) m).1 = 0 then 0 else 1) := by
  unfold fbF; rw [fbG_snoc]; unfold fbStep
  dsimp only
  split <;> simp
theorem fb_full : ∀ ms : List Nat, (∀ i (h : i < ms.length), ∃ φ, Lin φ ∧ φ ms[i] = true ∧ ∀ x ∈ ms.take i, φ x = false) → (fbF ms).length = ms.length := fun ms => by
  refine snoc_ind (M := fun ms => (∀ i (h : i < ms.length), ∃ φ, Lin φ ∧ φ ms[i] = true ∧ ∀ x ∈ ms.take i, φ x = false) → (fbF ms).length = ms.length) (fun _ => rfl) (fun ms m ih h => ?_) ms
  have ih' := ih fun i hi => by
    obtain ⟨φ, l, h1, h2⟩ := h i (by simp; omega)
    refine ⟨φ, l, ?_, ?_⟩
    · rw [List.getElem_append_left hi] at h1; exact h1
    · rw [List.take_append_of_le_length (by omega)] at h2; exact h2
  obtain ⟨φ, l, h1, h2⟩ := h ms.length (by simp)
  rw [List.getElem_append_right (by omega)] at h1
  rw [List.take_append_of_le_length (by omega), List.take_length] at h2
  rw [fb_len_snoc, if_neg (wp_ne l h2 (by simpa using h1)), ih']; simp
theorem fb_same {ms : List Nat} (M : Nat) : (fbF (ms ++ [cmbN ms M])).length = (fbF ms).length := by
  rw [fb_len_snoc, wp_zero]; simp
theorem fb_le (ms : List Nat) : (fbF ms).length ≤ ms.length := fbG_len ms
/-! ### the test -/
def tstP (bs : List (Nat × Nat × Nat)) (mark : Nat) : List Nat := mark :: (bs.filter fun b => decide (b.2.1 &&& mark ≠ 0)).map (·.1)
def tstL (P : List Nat) (v : Nat) : Bool := xsum (P.map fun p => decide (v &&& p ≠ 0))
theorem tstN_sum (bs : List (Nat × Nat × Nat)) (mark : Nat) : testN bs mark = (tstP bs mark).sum := rfl
theorem tstL_lin {P : List Nat} (h : ∀ p ∈ P, IsPow p) : Lin (tstL P) := ⟨xsum_false fun p _ => by simp, fun a b => by
  unfold tstL
  rw [← xsum_xor]
  exact xsum_congr fun p hp => and_xor_pow (h p hp) a b⟩
theorem tst_ent : ∀ {bs : List (Nat × Nat × Nat)}, Red bs → ∀ (q : Nat × Nat × Nat → Bool), ∀ b ∈ bs, xsum (((bs.filter q).map (·.1)).map fun p => decide (b.2.1 &&& p ≠ 0)) = q b
  | [], _, q, b, hb => by cases hb
  | c :: bs, h, q, b, hb => by
    obtain ⟨o1, o2⟩ := List.pairwise_cons.mp h.off
    rcases List.mem_cons.mp hb with e | hb
    · subst e
      have z : xsum (((bs.filter q).map (·.1)).map fun p => decide (b.2.1 &&& p ≠ 0)) = false := xsum_false fun p hp => by
        obtain ⟨d, hd, rfl⟩ := List.mem_map.mp hp
        simpa using (o1 d (List.mem_filter.mp hd).1).1
      by_cases hq : q b = true
      · rw [List.filter_cons_of_pos hq, List.map_cons, List.map_cons, xsum_cons, z, hq]
        simpa using (h.own b List.mem_cons_self).2
      · rw [List.filter_cons_of_neg hq, z]; simpa using hq
    · have ih := tst_ent ⟨fun d hd => h.own d (List.mem_cons_of_mem _ hd), o2⟩ q b hb
      by_cases hq : q c = true
      · rw [List.filter_cons_of_pos hq, List.map_cons, List.map_cons, xsum_cons, ih, (o1 b hb).2]; simp
      · rw [List.filter_cons_of_neg hq, ih]
theorem Lin.Rb0 {φ : Nat → Bool} (h : Lin φ) {bs : List (Nat × Nat × Nat)} (hb : ∀ b ∈ bs, φ b.2.1 = false) (v : Nat) : φ (Rb bs v) = false := by
  induction bs with
  | nil => exact h.zero
  | cons b bs ih =>
    simp only [Rb]
    rw [h.xor, ih fun c hc => hb c (List.mem_cons_of_mem _ hc)]
    unfold part
    split
    · rw [h.zero]; rfl
    · rw [hb b List.mem_cons_self]; rfl
structure TstOk (ms : List Nat) (m : Nat) (P : List Nat) : Prop where
  nd : P.Nodup
  pow : ∀ p ∈ P, IsPow p
  len : P.length ≤ ms.length + 1
  ev : ∀ x ∈ ms, tstL P x = false
  odd : tstL P m = true
theorem tst_ok (ms : List Nat) (m : Nat) (hne : (wpF (fbF ms) m).1 ≠ 0) : TstOk ms m (tstP (fbF ms) (low (wpF (fbF ms) m).1)) := by
  have I := inv ms
  have hr := I.red
  have hl := fb_le ms
  unfold fbF at hne hl ⊢
  rw [hr.wp] at hne ⊢
  dsimp only at hne ⊢
  have h0 : ∀ b ∈ (fbG ms).1, (m ^^^ Rb (fbG ms).1 m) &&& b.1 = 0 := fun b hb => hr.rest0 m hb
  have hm : m = (m ^^^ Rb (fbG ms).1 m) ^^^ Rb (fbG ms).1 m := by rw [Nat.xor_assoc, Nat.xor_self, Nat.xor_zero]
  generalize hrho : m ^^^ Rb (fbG ms).1 m = rho at hne h0 hm ⊢
  obtain ⟨k, hk1, hk2⟩ := low_pow rho hne
  have hk : rho &&& low rho ≠ 0 := by rw [hk1]; exact (and_pow1 rho k).mpr hk2
  have hpow : ∀ p ∈ tstP (fbG ms).1 (low rho), IsPow p := fun p hp => by
    rcases List.mem_cons.mp hp with rfl | hp
    · exact ⟨k, hk1⟩
    · obtain ⟨d, hd, rfl⟩ := List.mem_map.mp hp
      exact (hr.own d (List.mem_filter.mp hd).1).1
  have hlin := tstL_lin hpow
  have hent : ∀ b ∈ (fbG ms).1, tstL (tstP (fbG ms).1 (low rho)) b.2.1 = false := fun b hb => by
    unfold tstL tstP
    rw [List.map_cons, xsum_cons, tst_ent hr _ b hb, Bool.xor_self]
  refine ⟨List.nodup_cons.mpr ⟨fun z => ?_, ?_⟩, hpow, ?_, fun x hx => ?_, ?_⟩
  · obtain ⟨d, hd, e⟩ := List.mem_map.mp z
    have := h0 d (List.mem_filter.mp hd).1
    rw [e] at this
    exact hk this
  · refine List.nodup_iff_pairwise_ne.mpr (List.pairwise_map.mpr ?_)
    refine ((hr.off.sublist List.filter_sublist).imp_of_mem fun {a b} ha hb q => fun e => ?_)
    have := (hr.own a (List.mem_filter.mp ha).1).2
    rw [e] at this
    exact this q.1
  · show _ + 1 ≤ _
    rw [List.length_map]
    have := List.length_filter_le (fun b : Nat × Nat × Nat => decide (b.2.1 &&& low rho ≠ 0)) (fbG ms).1
    omega
  · rw [← I.fix x hx]; exact hlin.Rb0 hent x
  · rw [hm, hlin.xor, hlin.Rb0 hent, Bool.xor_false]
    unfold tstL tstP
    rw [List.map_cons, xsum_cons, xsum_false fun p hp => by
      obtain ⟨d, hd, rfl⟩ := List.mem_map.mp hp
      simpa using h0 d (List.mem_filter.mp hd).1]
    simpa using hk
theorem tstL_pow {P : List Nat} (nd : P.Nodup) (hp : ∀ p ∈ P, IsPow p) (k : Nat) : tstL P (2 ^ k) = decide (2 ^ k ∈ P) := by
  unfold tstL
  rw [← xsum_one nd (2 ^ k)]
  refine xsum_congr fun p h => ?_
  obtain ⟨j, rfl⟩ := hp p h
  exact and_pp k j
end NA

set_option Elab.async false
set_option linter.all false
set_option maxRecDepth 100000
set_option maxHeartbeats 4000000
set_option autoImplicit false
namespace NA
/-! ### faces, as truth values -/
def fc (r f : List Int) : Bool := decide (f ∈ facesF r)
theorem odd_cons (a : List Int) (l : List (List Int)) (f : List Int) : oddP (a :: l) f = (decide (a = f) ^^ oddP l f) := by
  unfold oddP
  rw [List.count_cons]
  by_cases h : a = f
  · subst h
    rw [if_pos (by simp)]
    have : l.count a % 2 = 0 ∨ l.count a % 2 = 1 := by omega
    rcases this with e | e
    · have e2 : (l.count a + 1) % 2 = 1 := by omega
      rw [e, e2]; simp
    · have e2 : (l.count a + 1) % 2 = 0 := by omega
      rw [e, e2]; simp
  · rw [if_neg (by simpa using h)]; simp [h]
theorem odd_sum (l : List (List Int)) (f : List Int) : oddP l f = xsum (l.map fun a => decide (a = f)) := by
  induction l with
  | nil => rfl
  | cons a l ih => rw [odd_cons, ih]; rfl
theorem odd_app (a b : List (List Int)) (f : List Int) : oddP (a ++ b) f = (oddP a f ^^ oddP b f) := by
  rw [odd_sum, odd_sum, odd_sum, List.map_append, xsum_append]
theorem xsum_oneR {l : List (List Int)} (nd : l.Nodup) (x : List Int) : xsum (l.map fun a => decide (a = x)) = decide (x ∈ l) := (xsum_one nd x).trans (decide_eq_decide.mpr Iff.rfl)
theorem pick_cons (r : List Int) (l : List (List Int)) (m : Nat) : pick (r :: l) m = (if m % 2 = 1 then [r] else []) ++ pick l (m / 2) := rfl
theorem numL_cons (r : List Int) (l : List (List Int)) (q : List Int → Bool) : numL (r :: l) q = (if q r then 1 else 0) + 2 * numL l q := rfl
theorem odd_nd {l : List (List Int)} (nd : l.Nodup) (f : List Int) : oddP l f = decide (f ∈ l) := by rw [odd_sum]; exact xsum_oneR nd f
theorem odd_fc {rs : List (List Int)} (h : ∀ r ∈ rs, (facesF r).Nodup) (f : List Int) : oddP (allF rs) f = xsum (rs.map fun r => fc r f) := by
  induction rs with
  | nil => rfl
  | cons r rs ih =>
    have e : allF (r :: rs) = facesF r ++ allF rs := by unfold allF; rw [List.flatMap_cons]
    rw [e, odd_app, odd_nd (h r List.mem_cons_self), ih fun q hq => h q (List.mem_cons_of_mem _ hq)]; rfl
theorem odd_none {l : List (List Int)} {f : List Int} (h : f ∉ l) : oddP l f = false := by
  unfold oddP; rw [List.count_eq_zero.mpr h]; rfl
theorem xsum_sub {l m : List (List Int)} (nl : l.Nodup) (nm : m.Nodup) (h : ∀ a ∈ m, a ∈ l) (g : List Int → Bool) : xsum (l.map fun a => decide (a ∈ m) && g a) = xsum (m.map g) := by
  rw [← xsum_filter]
  refine xsum_perm (List.Perm.map g ((List.perm_ext_iff_of_nodup (nl.sublist List.filter_sublist) nm).mpr fun a => ?_))
  rw [List.mem_filter]
  exact ⟨fun z => by simpa using z.2, fun z => ⟨h a z, by simpa using z⟩⟩
theorem dd_dec : ∀ n : Nat, n < 7 → ∀ s : Nat, s < 7 → (allR n (s + 1)).all (fun q => (allR n (s - 1)).all fun f => !xsum ((facesF q).map fun g => fc g f)) = true := by decide +kernel
theorem cone_dec : ∀ n : Nat, n < 7 → ∀ s : Nat, s < 7 → ∀ p : Nat, p < n → (allR n s).all (fun r => (allR n s).all fun g => ((!decide ((p : Int) ∈ r) && fc (up (p : Int) r) g) == (decide (r = g) ^^ (decide ((p : Int) ∈ g) && fc r (g.erase (p : Int)))))) = true := by decide +kernel
theorem cone_fc {n s p : Nat} (hn : n < 7) (hs : s < 7) (hp : p < n) {r g : List Int} (hr : r ∈ allR n s) (hg : g ∈ allR n s) :
    (!decide ((p : Int) ∈ r) && fc (up (p : Int) r) g) = (decide (r = g) ^^ (decide ((p : Int) ∈ g) && fc r (g.erase (p : Int)))) := by
  have := List.all_eq_true.mp (List.all_eq_true.mp (cone_dec n hn s hs p hp) r hr) g hg
  exact eq_of_beq this
theorem BOk.s7 {n s : Nat} {rs : List (List Int)} (h : BOk n s rs) : s < 7 := by have := h.n7; have := h.sn; omega
theorem BOk.nd {n s : Nat} {rs : List (List Int)} (h : BOk n s rs) : rs.Nodup := h.sub.nd h.n7 h.s8
theorem BOk.fnd {n s : Nat} {rs : List (List Int)} (h : BOk n s rs) : ∀ r ∈ rs, (facesF r).Nodup := fun r hr => facesF_nd (roomOk h.n7 h.s8 (h.sub.subset hr))
theorem BOk.odd {n s : Nat} {rs : List (List Int)} (h : BOk n s rs) (f : List Int) : oddP (NA.allF rs) f = xsum ((allR n s).map fun r => decide (r ∈ rs) && fc r f) := by
  rw [odd_fc h.fnd, xsum_sub (allR_nd h.n7 h.s8) h.nd fun a ha => h.sub.subset ha]
theorem even_odd {n s : Nat} {rs : List (List Int)} (h : BOk n s rs) (he : oddF n s rs = []) (f : List Int) : oddP (allF rs) f = false := by
  by_cases hf : f ∈ allF rs
  · have := List.filter_eq_nil_iff.mp he f (h.faces f hf)
    simpa using this
  · exact odd_none hf
theorem odd_even {n s : Nat} {rs : List (List Int)} (h : ∀ f ∈ allR n (s - 1), oddP (allF rs) f = false) : oddF n s rs = [] := List.filter_eq_nil_iff.mpr fun f hf => by rw [h f hf]; simp
/-- the boundary of anything is even -/
theorem bd_even {n s : Nat} {Q : List (List Int)} (hn : n < 7) (h1 : 1 ≤ s) (hs : s ≤ n) (hQ : ∀ q ∈ Q, q ∈ allR n (s + 1)) : oddF n s (sel n s (oddP (allF Q))) = [] := by
  have ok : BOk n s (sel n s (oddP (allF Q))) := ⟨hn, h1, hs, sel_sub _ _ _⟩
  have hQn : ∀ q ∈ Q, (facesF q).Nodup := fun q hq => facesF_nd (roomOk hn (by omega) (hQ q hq))
  refine odd_even fun f hf => ?_
  rw [odd_fc ok.fnd]
  unfold sel
  rw [xsum_filter]
  have e : ∀ g ∈ allR n s, (oddP (allF Q) g && fc g f) = xsum (Q.map fun q => fc q g && fc g f) := fun g _ => by
    rw [odd_fc hQn, Bool.and_comm, ← xsum_and]
    exact xsum_congr fun q _ => Bool.and_comm _ _
  rw [xsum_congr e, xsum_swap]
  refine xsum_false fun q hq => ?_
  show xsum ((allR n s).map fun g => decide (g ∈ facesF q) && fc g f) = false
  rw [xsum_sub (allR_nd hn (by omega)) (hQn q hq) fun a ha => allR_face hn (by omega) (hQ q hq) ha]
  have := List.all_eq_true.mp (List.all_eq_true.mp (dd_dec n hn s (by omega)) q (hQ q hq)) f hf
  simpa using this
theorem cone_id {n s p : Nat} {rs : List (List Int)} (ok : BOk n s rs) (hp : p < n) {g : List Int} (hg : g ∈ allR n s) :
    xsum ((dueR p rs).map fun r => fc (up (p : Int) r) g) = (decide (g ∈ rs) ^^ (decide ((p : Int) ∈ g) && oddP (allF rs) (g.erase (p : Int)))) := by
  unfold dueR
  rw [xsum_filter, odd_fc ok.fnd, ← xsum_and]
  have e := xsum_oneR ok.nd g
  rw [← e, ← xsum_xor]
  exact xsum_congr fun r hr => cone_fc ok.n7 ok.s7 hp (ok.sub.subset hr) hg
theorem due_all {n s p : Nat} {rs : List (List Int)} (ok : BOk n s rs) (hp : p < n) : ∀ r ∈ dueR p rs, up (p : Int) r ∈ allR n (s + 1) := fun r hr => by
  obtain ⟨h1, h2⟩ := List.mem_filter.mp hr
  exact up_all ok.n7 ok.s7 hp (ok.sub.subset h1) (by simpa using h2)
theorem cone_odd {n s p : Nat} {rs : List (List Int)} (ok : BOk n s rs) (hp : p < n) (g : List Int) : oddP (allF ((dueR p rs).map (up (p : Int)))) g = xsum ((dueR p rs).map fun r => fc (up (p : Int) r) g) := by
  rw [odd_fc, List.map_map]
  · rfl
  · intro q hq
    obtain ⟨r, hr, rfl⟩ := List.mem_map.mp hq
    have := ok.n7
    have := ok.sn
    exact facesF_nd (roomOk ok.n7 (by omega) (due_all ok hp r hr))
theorem cone_mem {n s p : Nat} {rs : List (List Int)} (ok : BOk n s rs) (hp : p < n) (he : oddF n s rs = []) {g : List Int} (hg : g ∈ allR n s) : xsum ((dueR p rs).map fun r => fc (up (p : Int) r) g) = decide (g ∈ rs) := by
  rw [cone_id ok hp hg, even_odd ok he]; simp
theorem cone_eq {n s p : Nat} {rs : List (List Int)} (ok : BOk n s rs) (hp : p < n) (he : oddF n s rs = []) : coneF n s p (dueR p rs) = rs := by
  refine (sel_sub _ _ _).ext ok.sub ok.n7 ok.s8 fun g hg => ?_
  unfold coneF at *
  rw [mem_sel, cone_odd ok hp, cone_mem ok hp he hg]
  simp [hg]
theorem mem_xor {n s : Nat} {a b : List (List Int)} {r : List Int} (h : r ∈ allR n s) : decide (r ∈ xorR n s a b) = (decide (r ∈ a) ^^ decide (r ∈ b)) := by
  unfold xorR
  rw [Bool.eq_iff_iff, decide_eq_true_eq, mem_sel]
  exact ⟨fun z => z.2, fun z => ⟨h, z⟩⟩
theorem xor_ok {n s : Nat} {a b : List (List Int)} (ha : BOk n s a) : BOk n s (xorR n s a b) := ⟨ha.n7, ha.s1, ha.sn, sel_sub _ _ _⟩
theorem xor_odd {n s : Nat} {a b : List (List Int)} (ha : BOk n s a) (hb : BOk n s b) (f : List Int) : oddP (allF (xorR n s a b)) f = (oddP (allF a) f ^^ oddP (allF b) f) := by
  rw [(xor_ok (b := b) ha).odd, ha.odd, hb.odd, ← xsum_xor]
  refine xsum_congr fun r hr => ?_
  rw [mem_xor hr]
  cases decide (r ∈ a) <;> cases decide (r ∈ b) <;> cases fc r f <;> rfl
theorem xor_even {n s : Nat} {a b : List (List Int)} (ha : BOk n s a) (hb : BOk n s b) (ea : oddF n s a = []) (eb : oddF n s b = []) : oddF n s (xorR n s a b) = [] := odd_even fun f _ => by
  rw [xor_odd ha hb, even_odd ha ea, even_odd hb eb]; rfl
theorem sum_xor {n s : Nat} {a b : List (List Int)} (ha : BOk n s a) (hb : BOk n s b) : sumR n s [a, b] = xorR n s a b := by
  unfold sumR xorR sel
  refine List.filter_congr fun r _ => ?_
  have : [a, b].flatten = a ++ b := by simp
  rw [this, odd_app, odd_nd ha.nd, odd_nd hb.nd]
theorem one_ok {n s : Nat} {e : List Int} (hn : n < 7) (h1 : 1 ≤ s) (hs : s ≤ n) (he : e ∈ allR n s) : BOk n s [e] := ⟨hn, h1, hs, List.singleton_sublist.mpr he⟩
theorem strange_odd {n s : Nat} {a : List (List Int)} {e : List Int} (ha : BOk n s a) (ea : oddF n s a = []) (he : e ∈ allR n s) : ∃ f, f ∈ allR n (s - 1) ∧ oddP (allF (xorR n s a [e])) f = true := by
  have oke := one_ok ha.n7 ha.s1 ha.sn he
  have rl := (roomOk ha.n7 ha.s8 he).len
  have hs1 := ha.s1
  have hf : e.eraseIdx 0 ∈ facesF e := List.mem_map.mpr ⟨0, List.mem_range.mpr (by omega), rfl⟩
  refine ⟨e.eraseIdx 0, ?_, ?_⟩
  · refine oke.faces _ ?_
    unfold allF; simpa using hf
  · rw [xor_odd ha oke, even_odd ha ea, odd_fc oke.fnd]
    show (false ^^ (fc e _ ^^ false)) = true
    unfold fc; rw [decide_eq_true hf]; rfl
theorem strange_ne {n s : Nat} {a : List (List Int)} {e : List Int} (ha : BOk n s a) (ea : oddF n s a = []) (he : e ∈ allR n s) : oddF n s (xorR n s a [e]) ≠ [] := fun z => by
  obtain ⟨f, h1, h2⟩ := strange_odd ha ea he
  have := List.filter_eq_nil_iff.mp z f h1
  exact this h2
/-! ### numbers -/
theorem pick_num (q : List Int → Bool) : ∀ l : List (List Int), pick l (numL l q) = l.filter q
  | [] => rfl
  | r :: l => by
    rw [pick_cons]
    have e := numL_cons r l q
    by_cases h : q r = true
    · rw [if_pos h] at e
      have e2 : numL (r :: l) q / 2 = numL l q := by omega
      rw [e2, pick_num q l, if_pos (by omega), List.filter_cons_of_pos h]; rfl
    · rw [if_neg h] at e
      have e2 : numL (r :: l) q / 2 = numL l q := by omega
      rw [e2, pick_num q l, if_neg (by omega), List.filter_cons_of_neg h]; rfl
theorem num_lt (q : List Int → Bool) : ∀ l : List (List Int), numL l q < 2 ^ l.length
  | [] => by simp [numL]
  | r :: l => by
    have := num_lt q l
    simp only [numL, List.length_cons, Nat.pow_succ]
    cases q r <;> simp <;> omega
theorem num_congr {q q' : List Int → Bool} : ∀ {l : List (List Int)}, (∀ r ∈ l, q r = q' r) → numL l q = numL l q'
  | [], _ => rfl
  | r :: l, h => by simp only [numL]; rw [h r List.mem_cons_self, num_congr fun a ha => h a (List.mem_cons_of_mem _ ha)]
theorem two_xor (a b : Nat) (x y : Bool) : ((if x then 1 else 0) + 2 * a) ^^^ ((if y then 1 else 0) + 2 * b) = (if x ^^ y then 1 else 0) + 2 * (a ^^^ b) := by
  refine Nat.eq_of_testBit_eq fun j => ?_
  rw [Nat.testBit_xor]
  have e : ∀ (x : Bool) (a : Nat), ((if x then 1 else 0) + 2 * a).testBit 0 = x := fun x a => by rw [Nat.testBit_zero]; cases x <;> simp <;> omega
  have e2 : ∀ (x : Bool) (a j : Nat), ((if x then 1 else 0) + 2 * a).testBit (j + 1) = a.testBit j := fun x a j => by
    rw [Nat.testBit_succ]
    have : ((if x then 1 else 0) + 2 * a) / 2 = a := by cases x <;> simp <;> omega
    rw [this]
  cases j with
  | zero => rw [e, e, e]
  | succ j => rw [e2, e2, e2, Nat.testBit_xor]
theorem num_xor (q q' : List Int → Bool) : ∀ l : List (List Int), numL l q ^^^ numL l q' = numL l fun r => q r ^^ q' r
  | [] => by simp [numL]
  | r :: l => by
    simp only [numL]
    rw [two_xor, num_xor q q' l]
theorem wo_due {n s p : Nat} {rs : List (List Int)} (ok : BOk n s rs) (hp : p < n) : (woR n s (p : Int)).filter (fun r => decide (r ∈ rs)) = dueR p rs := by
  have hn := ok.n7
  have e : dueR p rs = ((allR n s).filter fun r => decide (r ∈ rs)).filter fun r => !decide ((p : Int) ∈ r) := congrArg (List.filter _) (ok.sub.eq_sel ok.n7 ok.s8)
  rw [wo_eq n ok.n7 s ok.s8 p (by omega), List.filter_filter, e, List.filter_filter]
  refine List.filter_congr fun r _ => ?_
  exact Bool.and_comm _ _
theorem cmb_len : ∀ n : Nat, n < 7 → ∀ s : Nat, s < 7 → ∀ p : Nat, p < n → (woR n s (p : Int)).length = cmb n s := by decide +kernel
theorem back_ok {n s p : Nat} {rs : List (List Int)} (ok : BOk n s rs) (hp : p < n) (he : oddF n s rs = []) : BackOk n s rs p :=
  ⟨ok, hp, he, cone_eq ok hp he, by rw [← cmb_len n ok.n7 s ok.s7 p hp]; exact num_lt _ _, by rw [pick_num, wo_due ok hp]⟩
theorem num_both {n s p : Nat} {a b : List (List Int)} (hn : n < 7) (hs : s < 8) (hp : p < n) :
    numL (woR n s (p : Int)) (fun r => decide (r ∈ a)) ^^^ numL (woR n s (p : Int)) (fun r => decide (r ∈ b)) = numL (woR n s (p : Int)) fun r => decide (r ∈ xorR n s a b) := by
  rw [num_xor]
  exact num_congr fun r hr => (mem_xor ((woR_sub hn hs hp).subset hr)).symm
/-! ### the first book, drawn -/
theorem ev_ok {n s : Nat} {c : Int} (hn : n < 7) (h1 : 1 ≤ s) (hs : s ≤ n) : BOk n s (evR n s c) := ⟨hn, h1, hs, sel_sub _ _ _⟩
theorem ev_even {n s : Nat} {c : Int} (hn : n < 7) (h1 : 1 ≤ s) (hs : s ≤ n) : oddF n s (evR n s c) = [] :=
  bd_even hn h1 hs fun q hq => by
    obtain ⟨r, hr, rfl⟩ := List.mem_map.mp hq
    exact lastR_all hn (by omega) (by omega) ((pickZ_sub _ _).subset hr)
/-! ### masks of books -/
theorem find_wts (r : List Int) : ∀ (F : List (List Int)) (k : Nat), r ∈ F → ((F.zipIdx k).map fun p => (p.1, ((2 ^ p.2 : Nat) : Int))).find? (fun kv => decide (kv.1 = r)) = some (r, ((2 ^ (k + F.idxOf r) : Nat) : Int))
  | [], k, h => by cases h
  | a :: F, k, h => by
    rw [List.zipIdx_cons, List.map_cons]
    by_cases e : a = r
    · subst e
      rw [List.find?_cons_of_pos (by simp), List.idxOf_cons_self]; rfl
    · have hr : r ∈ F := (List.mem_cons.mp h).resolve_left fun z => e z.symm
      rw [List.find?_cons_of_neg (by simpa using e), find_wts r F (k + 1) hr, show (a :: F).idxOf r = F.idxOf r + 1 by rw [List.idxOf_cons, beq_eq_false_iff_ne.mpr e]; rfl]
      have : k + 1 + F.idxOf r = k + (F.idxOf r + 1) := by omega
      rw [this]
theorem wN_eq {F : List (List Int)} {r : List Int} (h : r ∈ F) : wN F r = 2 ^ F.idxOf r := by
  unfold wN getI wts
  rw [find_wts r F 0 h]
  show (((2 ^ (0 + F.idxOf r) : Nat) : Int)).toNat = _
  rw [Int.toNat_natCast, Nat.zero_add]
theorem idx_inj {F : List (List Int)} {a b : List Int} (ha : a ∈ F) (hb : b ∈ F) (h : F.idxOf a = F.idxOf b) : a = b := by
  have h1 := List.getElem_idxOf (List.idxOf_lt_length_of_mem ha)
  have h2 := List.getElem_idxOf (List.idxOf_lt_length_of_mem hb)
  rw [← h1, ← h2]
  simp only [h]
theorem wN_inj {F : List (List Int)} {a b : List Int} (ha : a ∈ F) (hb : b ∈ F) (h : wN F a = wN F b) : a = b := by
  rw [wN_eq ha, wN_eq hb] at h
  exact idx_inj ha hb (pow_inj.mp h)
theorem wN_nd {F rs : List (List Int)} (nd : rs.Nodup) (h : ∀ r ∈ rs, r ∈ F) : (rs.map (wN F)).Nodup := by
  refine List.nodup_iff_pairwise_ne.mpr (List.pairwise_map.mpr ((List.nodup_iff_pairwise_ne.mp nd).imp_of_mem fun {a b} ha hb q e => q (wN_inj (h a ha) (h b hb) e)))
theorem vec_bits {F rs : List (List Int)} (nd : rs.Nodup) (h : ∀ r ∈ rs, r ∈ F) (j : Nat) : (vecN F rs).testBit j = decide (2 ^ j ∈ rs.map (wN F)) :=
  sum_pows (wN_nd nd h) (fun p hp => by
    obtain ⟨r, hr, rfl⟩ := List.mem_map.mp hp
    exact ⟨_, wN_eq (h r hr)⟩) j
theorem vec_bit {F rs : List (List Int)} (nd : rs.Nodup) (h : ∀ r ∈ rs, r ∈ F) {g : List Int} (hg : g ∈ F) : (vecN F rs).testBit (F.idxOf g) = decide (g ∈ rs) := by
  rw [vec_bits nd h, decide_eq_decide, ← wN_eq hg, List.mem_map]
  exact ⟨fun ⟨a, ha, e⟩ => wN_inj (h a ha) hg e ▸ ha, fun z => ⟨g, z, rfl⟩⟩
theorem vec_out {F rs : List (List Int)} (nd : rs.Nodup) (h : ∀ r ∈ rs, r ∈ F) {j : Nat} (hj : ∀ g ∈ F, F.idxOf g ≠ j) : (vecN F rs).testBit j = false := by
  rw [vec_bits nd h, decide_eq_false_iff_not, List.mem_map]
  rintro ⟨a, ha, e⟩
  rw [wN_eq (h a ha)] at e
  exact hj a (h a ha) (pow_inj.mp e)
theorem vec_ext {F : List (List Int)} {x y : Nat} (h1 : ∀ g ∈ F, x.testBit (F.idxOf g) = y.testBit (F.idxOf g)) (h2 : ∀ j, (∀ g ∈ F, F.idxOf g ≠ j) → x.testBit j = y.testBit j) : x = y := Nat.eq_of_testBit_eq fun j => by
  by_cases h : ∀ g ∈ F, F.idxOf g ≠ j
  · exact h2 j h
  · obtain ⟨g, hg⟩ := Classical.not_forall.mp h
    obtain ⟨hgF, hgj⟩ := Classical.not_imp.mp hg
    have e := Classical.not_not.mp hgj
    rw [← e]
    exact h1 g hgF
theorem lin_vec {φ : Nat → Bool} (l : Lin φ) {F : List (List Int)} : ∀ {rs : List (List Int)}, rs.Nodup → (∀ r ∈ rs, r ∈ F) → φ (vecN F rs) = xsum (rs.map fun r => φ (wN F r))
  | [], _, _ => l.zero
  | r :: rs, nd, h => by
    obtain ⟨h1, h2⟩ := List.nodup_cons.mp nd
    have hr := h r List.mem_cons_self
    have h' : ∀ a ∈ rs, a ∈ F := fun a ha => h a (List.mem_cons_of_mem _ ha)
    have e : vecN F (r :: rs) = wN F r ^^^ vecN F rs := by
      have : vecN F (r :: rs) = wN F r + vecN F rs := by unfold vecN; rw [List.map_cons, List.sum_cons]
      rw [this, wN_eq hr]
      exact add_pow _ _ (by rw [vec_bit h2 h' hr]; exact decide_eq_false h1)
    rw [e, l.xor, lin_vec l h2 h', List.map_cons, xsum_cons]
/-! ### sums of masks, by rooms -/
theorem cmbN_cons (m : Nat) (ms : List Nat) (M : Nat) : cmbN (m :: ms) M = (if M % 2 = 1 then m else 0) ^^^ cmbN ms (M / 2) := rfl
theorem cmb_bit (f : List Int → Nat) (q : List Int → Bool) (j : Nat) : ∀ l : List (List Int), (cmbN (l.map f) (numL l q)).testBit j = xsum (l.map fun r => q r && (f r).testBit j)
  | [] => by simp [cmbN, xsum_nil]
  | r :: l => by
    have e := numL_cons r l q
    rw [List.map_cons, cmbN_cons, List.map_cons, xsum_cons]
    by_cases h : q r = true
    · rw [if_pos h] at e
      have e2 : numL (r :: l) q / 2 = numL l q := by omega
      rw [e2, if_pos (by omega), Nat.testBit_xor, cmb_bit f q j l, h, Bool.true_and]
    · rw [if_neg h] at e
      have e2 : numL (r :: l) q / 2 = numL l q := by omega
      rw [e2, if_neg (by omega), Nat.testBit_xor, cmb_bit f q j l]
      have h' : q r = false := by simpa using h
      rw [h', Bool.false_and]; simp
theorem pick_sub' : ∀ (l : List (List Int)) (m : Nat), ∀ r ∈ pick l m, r ∈ l
  | [], _, r, h => by cases h
  | a :: l, m, r, h => by
    simp only [pick] at h
    rcases List.mem_append.mp h with h | h
    · split at h
      · have : r = a := by simpa using h
        rw [this]; exact List.mem_cons_self
      · cases h
    · exact List.mem_cons_of_mem _ (pick_sub' l _ r h)
theorem cmb_pick {f : List Int → Nat} {φ : Nat → Bool} (lin : Lin φ) {g : List Int} : ∀ {l : List (List Int)}, l.Nodup → (∀ r ∈ l, φ (f r) = decide (r = g)) → ∀ M, φ (cmbN (l.map f) M) = decide (g ∈ pick l M)
  | [], _, _, M => by simp [cmbN, pick, lin.zero]
  | r :: l, nd, h, M => by
    obtain ⟨h1, h2⟩ := List.nodup_cons.mp nd
    rw [List.map_cons, cmbN_cons, pick_cons, lin.xor, cmb_pick lin h2 (fun a ha => h a (List.mem_cons_of_mem _ ha))]
    have hr := h r List.mem_cons_self
    by_cases hM : M % 2 = 1
    · rw [if_pos hM, if_pos hM, hr]
      by_cases e : r = g
      · subst e
        have : r ∉ pick l (M / 2) := fun z => h1 (pick_sub' _ _ _ z)
        simp [this]
      · have e' : ¬ g = r := fun z => e z.symm
        simp [e, e']
    · rw [if_neg hM, if_neg hM, lin.zero]; simp
theorem num_pick : ∀ {l : List (List Int)}, l.Nodup → ∀ {M : Nat}, M < 2 ^ l.length → numL l (fun r => decide (r ∈ pick l M)) = M
  | [], _, M, h => by simp at h; subst h; rfl
  | r :: l, nd, M, h => by
    obtain ⟨h1, h2⟩ := List.nodup_cons.mp nd
    rw [List.length_cons, Nat.pow_succ] at h
    have ih := num_pick h2 (M := M / 2) (by omega)
    have hr : r ∉ pick l (M / 2) := fun z => h1 (pick_sub' _ _ _ z)
    rw [numL_cons, pick_cons, num_congr (q' := fun a => decide (a ∈ pick l (M / 2))), ih]
    · by_cases hM : M % 2 = 1
      · rw [if_pos hM]; simp; omega
      · rw [if_neg hM]; simp [hr]; omega
    · intro a ha
      have : ¬ a = r := fun z => h1 (z ▸ ha)
      by_cases hM : M % 2 = 1
      · rw [if_pos hM]; simp [this]
      · rw [if_neg hM]; simp
theorem num_uniq {f : List Int → Nat} {l : List (List Int)} (nd : l.Nodup) (h : ∀ g ∈ l, ∃ φ, Lin φ ∧ ∀ r ∈ l, φ (f r) = decide (r = g)) {M : Nat} (hM : M < 2 ^ l.length) {q : List Int → Bool} (e : cmbN (l.map f) M = cmbN (l.map f) (numL l q)) : M = numL l q := by
  rw [← num_pick nd hM]
  refine num_congr fun g hg => ?_
  obtain ⟨φ, lin, hφ⟩ := h g hg
  have h1 := cmb_pick lin nd hφ M
  have h2 := cmb_pick lin nd hφ (numL l q)
  rw [e, h2, pick_num] at h1
  rw [← h1, Bool.eq_iff_iff, decide_eq_true_eq, List.mem_filter]
  exact ⟨fun z => z.2, fun z => ⟨hg, z⟩⟩
theorem bits_num (q : List Int → Bool) : ∀ (l : List (List Int)) (a : Nat), bitsA a (numL l q) = ((List.range l.length).filter fun k => q (l.getD k [])).map (a + ·)
  | [], a => by simp [numL, bitsA_zero]
  | r :: l, a => by
    have ih := bits_num q l (a + 1)
    have e : (List.range (l.length + 1)).filter (fun k => q ((r :: l).getD k [])) = (if q r then [0] else []) ++ ((List.range l.length).filter fun k => q (l.getD k [])).map (· + 1) := by
      rw [List.range_succ_eq_map, List.filter_cons, List.filter_map]
      have : ((fun k => q ((r :: l).getD k [])) ∘ Nat.succ) = fun k => q (l.getD k []) := by
        funext k; simp
      rw [this]
      cases h : q r <;> simp [h]
    have en := numL_cons r l q
    rw [List.length_cons, e, List.map_append, List.map_map]
    have e3 : ((a + ·) ∘ (· + 1) : Nat → Nat) = (a + 1 + ·) := by funext k; show a + (k + 1) = a + 1 + k; omega
    rw [e3, ← ih]
    by_cases h : q r = true
    · rw [if_pos h] at en
      have e1 : numL (r :: l) q / 2 = numL l q := by omega
      rw [bitsA_pos a _ (by omega), e1, if_pos (by omega), if_pos h]; rfl
    · rw [if_neg h] at en
      have e1 : numL (r :: l) q / 2 = numL l q := by omega
      by_cases h0 : numL (r :: l) q = 0
      · have h2 : numL l q = 0 := by omega
        rw [h0, h2, bitsA_zero, bitsA_zero, if_neg h]; rfl
      · rw [bitsA_pos a _ h0, e1, if_neg (by omega), if_neg h]; rfl
theorem nd_len {α : Type} [DecidableEq α] : ∀ {a b : List α}, a.Nodup → (∀ x ∈ a, x ∈ b) → a.length ≤ b.length
  | [], _, _, _ => Nat.zero_le _
  | x :: a, b, nd, h => by
    obtain ⟨h1, h2⟩ := List.nodup_cons.mp nd
    have hx := h x List.mem_cons_self
    have := nd_len (b := b.erase x) h2 fun y hy => by
      have hne : y ≠ x := fun z => h1 (z ▸ hy)
      exact (List.mem_erase_of_ne hne).mpr (h y (List.mem_cons_of_mem _ hy))
    rw [List.length_erase_of_mem hx] at this
    have := List.length_pos_of_mem hx
    rw [List.length_cons]; omega
/-! ### what _law_spans asks -/
section
variable {n s p : Nat} {F : List (List Int)}
theorem bd_ok (hn : n < 7) (h1 : 1 ≤ s) (hs : s ≤ n) (c : List Int) : BOk n s (bdR n s c) := ⟨hn, h1, hs, bdR_sub n s c⟩
theorem bd_fc {c g : List Int} (hg : g ∈ allR n s) (hc : (facesF c).Nodup) : decide (g ∈ bdR n s c) = fc c g := by
  have e : oddP (allF [c]) g = fc c g := by
    rw [odd_fc fun r hr => by have : r = c := by simpa using hr
                              rw [this]; exact hc]
    show (fc c g ^^ false) = _
    rw [Bool.xor_false]
  unfold bdR oddF
  rw [Bool.eq_iff_iff, decide_eq_true_eq, mem_sel, e]
  exact ⟨fun z => z.2, fun z => ⟨hg, z⟩⟩
/-- a list of rooms that numbers the books' rooms -/
structure Num (n s p : Nat) (F : List (List Int)) : Prop where
  n7 : n < 7
  s1 : 1 ≤ s
  sn : s ≤ n
  pn : p < n
  all : ∀ g ∈ F, g ∈ allR n s
  mem : ∀ r ∈ woR n s (p : Int), ∀ g ∈ bdR n s (up (p : Int) r), g ∈ F
theorem Num.s8 (N : Num n s p F) : s < 8 := by have := N.n7; have := N.sn; omega
theorem Num.nd (N : Num n s p F) : (woR n s (p : Int)).Nodup := (woR_sub N.n7 N.s8 N.pn).nd N.n7 N.s8
theorem Num.fnd (N : Num n s p F) {r : List Int} (hr : r ∈ woR n s (p : Int)) : (facesF (up (p : Int) r)).Nodup := by
  have h := (woR_mem N.n7 N.s8 N.pn).mp hr
  have := N.n7
  have := N.sn
  exact facesF_nd (roomOk (n := n) (s := s + 1) N.n7 (by omega) (up_all N.n7 (by omega) N.pn h.1 h.2))
/-- among the rooms without the apex, a book has its own alone -/
theorem Num.own (N : Num n s p F) {r g : List Int} (hr : r ∈ woR n s (p : Int)) (hg : g ∈ woR n s (p : Int)) : decide (g ∈ bdR n s (up (p : Int) r)) = decide (r = g) := by
  have h1 := (woR_mem N.n7 N.s8 N.pn).mp hr
  have h2 := (woR_mem N.n7 N.s8 N.pn).mp hg
  have := N.n7
  have := N.sn
  rw [bd_fc h2.1 (N.fnd hr)]
  have := cone_fc N.n7 (by omega) N.pn h1.1 h2.1
  simpa [h1.2, h2.2] using this
def msk (n s p : Nat) (F : List (List Int)) (r : List Int) : Nat := vecN F (bdR n s (up (p : Int) r))
theorem msk_eq : (bksF n s p).map (vecN F) = (woR n s (p : Int)).map (msk n s p F) := by unfold bksF; rw [List.map_map]; rfl
theorem bks_len : (bksF n s p).length = (woR n s (p : Int)).length := by unfold bksF; rw [List.length_map]
theorem Num.inF (N : Num n s p F) {g : List Int} (hg : g ∈ woR n s (p : Int)) : g ∈ F := N.mem g hg g (by have := N.own hg hg; simpa using this)
theorem Num.bit (N : Num n s p F) {r g : List Int} (hr : r ∈ woR n s (p : Int)) (hg : g ∈ F) : (msk n s p F r).testBit (F.idxOf g) = decide (g ∈ bdR n s (up (p : Int) r)) :=
  vec_bit (bd_ok N.n7 N.s1 N.sn _).nd (N.mem r hr) hg
theorem Num.fun (N : Num n s p F) : ∀ g ∈ woR n s (p : Int), ∃ φ, Lin φ ∧ ∀ r ∈ woR n s (p : Int), φ (msk n s p F r) = decide (r = g) := fun g hg =>
  ⟨fun x => x.testBit (F.idxOf g), lin_bit _, fun r hr => (N.bit hr (N.inF hg)).trans (N.own hr hg)⟩
theorem Num.sum (N : Num n s p F) {rs : List (List Int)} (ok : BOk n s rs) (he : oddF n s rs = []) (hF : ∀ r ∈ rs, r ∈ F) :
    cmbN ((woR n s (p : Int)).map (msk n s p F)) (numL (woR n s (p : Int)) fun r => decide (r ∈ rs)) = vecN F rs := by
  refine vec_ext (F := F) (fun g hg => ?_) fun j hj => ?_
  · rw [cmb_bit, vec_bit ok.nd hF hg, ← cone_mem ok N.pn he (N.all g hg), ← wo_due ok N.pn, xsum_filter]
    refine xsum_congr fun r hr => ?_
    rw [N.bit hr hg, bd_fc (N.all g hg) (N.fnd hr)]
  · rw [cmb_bit, vec_out ok.nd hF hj]
    refine xsum_false fun r hr => ?_
    rw [show (msk n s p F r).testBit j = false from vec_out (bd_ok N.n7 N.s1 N.sn _).nd (N.mem r hr) hj, Bool.and_false]
theorem Num.rank (N : Num n s p F) : (combB F (bksF n s p)).length = (bksF n s p).length := by
  unfold combB
  rw [msk_eq, bks_len, fb_full, List.length_map]
  intro i hi
  rw [List.length_map] at hi
  obtain ⟨φ, lin, h⟩ := N.fun _ (List.getElem_mem hi)
  refine ⟨φ, lin, ?_, fun x hx => ?_⟩
  · rw [List.getElem_map, h _ (List.getElem_mem hi)]; simp
  · rw [← List.map_take] at hx
    obtain ⟨r, hr, rfl⟩ := List.mem_map.mp hx
    rw [h r (List.mem_of_mem_take hr), decide_eq_false_iff_not]
    rintro rfl
    obtain ⟨j, hj, e⟩ := List.getElem_of_mem hr
    rw [List.getElem_take] at e
    rw [List.length_take] at hj
    have := List.pairwise_iff_getElem.mp (List.nodup_iff_pairwise_ne.mp N.nd) j i (by omega) hi (by omega)
    exact this e
theorem Num.rank2 (N : Num n s p F) {rs : List (List Int)} (ok : BOk n s rs) (he : oddF n s rs = []) (hF : ∀ r ∈ rs, r ∈ F) : (combB F (bksF n s p ++ [rs])).length = (bksF n s p).length := by
  have h1 := N.rank
  unfold combB at h1 ⊢
  rw [List.map_append, msk_eq] at *
  rw [List.map_cons, List.map_nil, ← N.sum ok he hF, fb_same, h1]
/-- the parity of the rooms at a face -/
def psi (F : List (List Int)) (f : List Int) (x : Nat) : Bool := xsum (F.map fun r => fc r f && x.testBit (F.idxOf r))
theorem psi_lin (F : List (List Int)) (f : List Int) : Lin (psi F f) := lin_sum F (fun r => fc r f) fun r => F.idxOf r
theorem psi_vec (nF : F.Nodup) {rs : List (List Int)} (ok : BOk n s rs) (hF : ∀ r ∈ rs, r ∈ F) (f : List Int) : psi F f (vecN F rs) = oddP (allF rs) f := by
  rw [odd_fc ok.fnd, ← xsum_sub nF ok.nd hF]
  unfold psi
  refine xsum_congr fun r hr => ?_
  rw [vec_bit ok.nd hF hr, Bool.and_comm]
theorem Num.psi0 (N : Num n s p F) (nF : F.Nodup) (f : List Int) : ∀ x ∈ (woR n s (p : Int)).map (msk n s p F), psi F f x = false := fun x hx => by
  obtain ⟨r, hr, rfl⟩ := List.mem_map.mp hx
  have ok := bd_ok N.n7 N.s1 N.sn (up (p : Int) r)
  rw [show psi F f (msk n s p F r) = _ from psi_vec nF ok (N.mem r hr) f]
  have h := (woR_mem N.n7 N.s8 N.pn).mp hr
  have := N.n7
  have := N.sn
  exact even_odd ok (bd_even N.n7 N.s1 N.sn fun q hq => by
    have : q = up (p : Int) r := by simpa using hq
    rw [this]; exact up_all N.n7 (by omega) N.pn h.1 h.2) f
theorem Num.rank3 (N : Num n s p F) (nF : F.Nodup) {qs : List (List Int)} (ok : BOk n s qs) {f : List Int} (hf : oddP (allF qs) f = true) (hF : ∀ r ∈ qs, r ∈ F) : (combB F (qs :: bksF n s p)).length = (bksF n s p).length + 1 := by
  have hpsi : psi F f (vecN F qs) = true := by rw [psi_vec nF ok hF, hf]
  unfold combB
  rw [List.map_cons, msk_eq, bks_len, fb_full, List.length_cons, List.length_map]
  intro i hi
  cases i with
  | zero => exact ⟨psi F f, psi_lin F f, hpsi, fun x hx => by cases hx⟩
  | succ i =>
    rw [List.length_cons, List.length_map] at hi
    have hi' : i < (woR n s (p : Int)).length := by omega
    obtain ⟨φ, lin, h⟩ := N.fun _ (List.getElem_mem hi')
    refine ⟨_, lin.add (psi_lin F f) (φ (vecN F qs)), ?_, fun x hx => ?_⟩
    · rw [List.getElem_cons_succ, List.getElem_map]
      rw [h _ (List.getElem_mem hi'), N.psi0 nF f _ (List.mem_map.mpr ⟨_, List.getElem_mem hi', rfl⟩)]; simp
    · rw [List.take_succ_cons] at hx
      rcases List.mem_cons.mp hx with rfl | hx
      · rw [hpsi]; simp
      · rw [← List.map_take] at hx
        obtain ⟨r, hr, rfl⟩ := List.mem_map.mp hx
        have hr' := List.mem_of_mem_take hr
        rw [N.psi0 nF f _ (List.mem_map.mpr ⟨r, hr', rfl⟩), h r hr', Bool.and_false, Bool.xor_false, decide_eq_false_iff_not]
        rintro rfl
        obtain ⟨j, hj, e⟩ := List.getElem_of_mem hr
        rw [List.getElem_take] at e
        rw [List.length_take] at hj
        have := List.pairwise_iff_getElem.mp (List.nodup_iff_pairwise_ne.mp N.nd) j i (by omega) hi' (by omega)
        exact this e
theorem small_pow {m k : Nat} (h : m < 2 ^ k) (hk : k ≤ 20) : m < 2 ^ 64 := Nat.lt_of_lt_of_le h (Nat.pow_le_pow_right (by decide) (by omega))
theorem Num.len20 (N : Num n s p F) : (woR n s (p : Int)).length ≤ 20 := Nat.le_trans (woR_sub N.n7 N.s8 N.pn).length_le (allR_len n N.n7 s N.s8)
theorem Num.lt64 (N : Num n s p F) (rs : List (List Int)) : (combX F rs (bksF n s p)).2 < 2 ^ 64 := by
  unfold combX combB
  refine small_pow (wp_lt _ _) ?_
  rw [List.length_map, bks_len]; exact N.len20
theorem Num.told (N : Num n s p F) {rs : List (List Int)} (ok : BOk n s rs) (he : oddF n s rs = []) (hF : ∀ r ∈ rs, r ∈ F) : combD n s F rs (bksF n s p) = .tup [.str "sum", .tup ((idxF rs (woR n s (p : Int))).map natD)] := by
  have e := N.sum ok he hF
  have hz : (combX F rs (bksF n s p)).1 = 0 := by
    unfold combX combB
    rw [msk_eq, ← e]; exact wp_zero _ _
  have hx : (combX F rs (bksF n s p)).2 = numL (woR n s (p : Int)) fun r => decide (r ∈ rs) := by
    refine num_uniq N.nd N.fun ?_ ?_
    · have := wp_lt ((bksF n s p).map (vecN F)) (vecN F rs)
      rw [List.length_map, bks_len] at this
      exact this
    · rw [e]
      unfold combX combB at hz ⊢
      rw [← msk_eq, wp_sum, hz, Nat.xor_zero]
  unfold combD
  rw [if_pos hz, hx, bits_num]
  unfold idxF
  have : ((fun x => 0 + x) : Nat → Nat) = id := by funext k; exact Nat.zero_add k
  rw [this, List.map_id]
theorem Num.test (N : Num n s p F) (nF : F.Nodup) {qs : List (List Int)} (ok : BOk n s qs) {f : List Int} (hf : oddP (allF qs) f = true) (hF : ∀ r ∈ qs, r ∈ F) :
    ∃ ts, combD n s F qs (bksF n s p) = .tup [.str "test", trooms ts] ∧ TestOk n s ts qs (bksF n s p) := by
  have hpsi : psi F f (vecN F qs) = true := by rw [psi_vec nF ok hF, hf]
  have hne : (combX F qs (bksF n s p)).1 ≠ 0 := by
    unfold combX combB
    rw [msk_eq]
    exact wp_ne (psi_lin F f) (N.psi0 nF f) hpsi
  refine ⟨_, if_neg hne, ?_⟩
  have T := tst_ok ((bksF n s p).map (vecN F)) (vecN F qs) hne
  have hts : testN (combB F (bksF n s p)) (low (combX F qs (bksF n s p)).1) = (tstP (fbF ((bksF n s p).map (vecN F))) (low (wpF (fbF ((bksF n s p).map (vecN F))) (vecN F qs)).1)).sum := tstN_sum _ _
  rw [hts]
  generalize tstP (fbF ((bksF n s p).map (vecN F))) (low (wpF (fbF ((bksF n s p).map (vecN F))) (vecN F qs)).1) = P at T
  obtain ⟨nd, pw, hl, hev, hodd⟩ := T
  have hw : ∀ r ∈ F, decide (wN F r &&& P.sum ≠ 0) = decide (wN F r ∈ P) := fun r hr => by
    rw [decide_eq_decide, wN_eq hr, Nat.and_comm, and_pow1, sum_pows nd pw, decide_eq_true_eq]
  have hmem : ∀ r ∈ F, decide (r ∈ sel n s fun r => decide (r ∈ F) && decide (wN F r &&& P.sum ≠ 0)) = tstL P (wN F r) := fun r hr => by
    have e : tstL P (wN F r) = decide (wN F r ∈ P) := by rw [wN_eq hr]; exact tstL_pow nd pw _
    rw [e, ← hw r hr, Bool.eq_iff_iff, decide_eq_true_eq, mem_sel, decide_eq_true hr, Bool.true_and]
    exact ⟨fun z => z.2, fun z => ⟨N.all r hr, z⟩⟩
  have par : ∀ rows : List (List Int), rows.Nodup → (∀ r ∈ rows, r ∈ F) → decide ((rows.filter fun r => decide (r ∈ sel n s fun r => decide (r ∈ F) && decide (wN F r &&& P.sum ≠ 0))).length % 2 = 1) = tstL P (vecN F rows) := fun rows hnd hr => by
    rw [← xsum_len, lin_vec (tstL_lin pw) hnd hr]
    exact xsum_congr fun r h => hmem r (hr r h)
  refine ⟨sel_sub _ _ _, ?_, fun row hrow => ?_, ?_⟩
  · refine Nat.le_trans ?_ (by rw [List.length_map] at hl; exact hl)
    have hsF : ∀ r ∈ sel n s (fun r => decide (r ∈ F) && decide (wN F r &&& P.sum ≠ 0)), r ∈ F := fun r hr => by
      have := (mem_sel.mp hr).2
      rw [Bool.and_eq_true] at this
      simpa using this.1
    have := nd_len (b := P) (wN_nd ((sel_sub n s (fun r => decide (r ∈ F) && decide (wN F r &&& P.sum ≠ 0))).nd N.n7 N.s8) hsF) fun x hx => by
      obtain ⟨r, hr, rfl⟩ := List.mem_map.mp hx
      have h2 := (mem_sel.mp hr).2
      rw [Bool.and_eq_true, hw r (hsF r hr)] at h2
      simpa using h2.2
    rw [List.length_map] at this
    exact this
  · have hmk := hev (vecN F row) (List.mem_map.mpr ⟨row, hrow, rfl⟩)
    unfold bksF at hrow
    obtain ⟨r, hr, rfl⟩ := List.mem_map.mp hrow
    rw [← par _ (bd_ok N.n7 N.s1 N.sn _).nd (N.mem r hr)] at hmk
    have := of_decide_eq_false hmk
    omega
  · rw [← par _ ok.nd hF] at hodd
    exact of_decide_eq_true hodd
theorem whole_snoc (rs : List (List Int)) (l : List (List Int)) (r : List Int) : wholeF n s p rs (l ++ [r]) = if r ∈ rs then xorR n s (wholeF n s p rs l) (bdR n s (up (p : Int) r)) else wholeF n s p rs l := by unfold wholeF; rw [List.foldl_append]; rfl
theorem whole_bok (hn : n < 7) (h1 : 1 ≤ s) (hs : s ≤ n) (rs : List (List Int)) (l : List (List Int)) : BOk n s (wholeF n s p rs l) := by
  refine snoc_ind (M := fun l => BOk n s (wholeF n s p rs l)) ⟨hn, h1, hs, List.nil_sublist _⟩ (fun l r ok => ?_) l
  rw [whole_snoc]
  split
  · exact xor_ok ok
  · exact ok
theorem whole_mem (rs : List (List Int)) {g : List Int} (hg : g ∈ allR n s) (l : List (List Int)) : decide (g ∈ wholeF n s p rs l) = xsum (l.map fun r => decide (r ∈ rs) && decide (g ∈ bdR n s (up (p : Int) r))) := by
  refine snoc_ind (M := fun l => decide (g ∈ wholeF n s p rs l) = xsum (l.map fun r => decide (r ∈ rs) && decide (g ∈ bdR n s (up (p : Int) r)))) (by simp [wholeF, xsum_nil]) (fun l r e => ?_) l
  rw [whole_snoc, List.map_append, xsum_append, ← e]
  by_cases hr : r ∈ rs
  · rw [if_pos hr, mem_xor hg]; simp [hr, xsum_cons, xsum_nil]
  · rw [if_neg hr]; simp [hr, xsum_cons, xsum_nil]
theorem spans_ok {rs qs : List (List Int)} (ok : BOk n s rs) (he : oddF n s rs = []) (hp : p < n) (okq : BOk n s qs) {f : List Int} (hf : oddP (allF qs) f = true) : SpansOk n s rs qs p := by
  have hn := ok.n7
  have h1 := ok.s1
  have hs := ok.sn
  have hbk : ∀ b ∈ bksF n s p, ∀ g ∈ b, g ∈ allR n s := fun b hb g hg => by
    unfold bksF at hb
    obtain ⟨r, _, rfl⟩ := List.mem_map.mp hb
    exact (bdR_sub n s _).subset hg
  have num : ∀ L : List (List (List Int)), (∀ b ∈ L, ∀ g ∈ b, g ∈ allR n s) → (∀ b ∈ bksF n s p, b ∈ L) → Num n s p (firsts L.flatten) := fun L hL hb =>
    ⟨hn, h1, hs, hp, fun g hg => by
      rw [firsts_mem] at hg
      obtain ⟨b, hb, hg⟩ := List.mem_flatten.mp hg
      exact hL b hb g hg, fun r hr g hg => by
      rw [firsts_mem]
      exact List.mem_flatten.mpr ⟨_, hb _ (List.mem_map.mpr ⟨r, hr, rfl⟩), hg⟩⟩
  have inF : ∀ (L : List (List (List Int))) (b : List (List Int)), b ∈ L → ∀ r ∈ b, r ∈ firsts L.flatten := fun L b hb r hr => by
    rw [firsts_mem]; exact List.mem_flatten.mpr ⟨b, hb, hr⟩
  have N0 := num (bksF n s p) hbk fun b hb => hb
  have N1 := num (rs :: bksF n s p) (fun b hb => by
    rcases List.mem_cons.mp hb with rfl | hb
    · exact fun g hg => ok.sub.subset hg
    · exact hbk b hb) fun b hb => List.mem_cons_of_mem _ hb
  have N2 := num (bksF n s p ++ [rs]) (fun b hb => by
    rcases List.mem_append.mp hb with hb | hb
    · exact hbk b hb
    · have : b = rs := by simpa using hb
      subst this
      exact fun g hg => ok.sub.subset hg) fun b hb => List.mem_append_left _ hb
  have N3 := num (qs :: bksF n s p) (fun b hb => by
    rcases List.mem_cons.mp hb with rfl | hb
    · exact fun g hg => okq.sub.subset hg
    · exact hbk b hb) fun b hb => List.mem_cons_of_mem _ hb
  refine ⟨ok, okq, hp, he, fun r hr => ?_, ?_, N1.lt64 rs, N1.told ok he (inF _ _ List.mem_cons_self), N0.rank, N2.rank2 ok he (inF _ _ (by simp)), N3.rank3 (firsts_nd _) okq hf (inF _ _ List.mem_cons_self), N3.lt64 qs, N3.test (firsts_nd _) okq hf (inF _ _ List.mem_cons_self)⟩
  · have h := (woR_mem hn ok.s8 hp).mp hr
    exact bd_even hn h1 hs fun q hq => by
      have : q = up (p : Int) r := by simpa using hq
      rw [this]; exact up_all hn (by omega) hp h.1 h.2
  · refine (whole_bok hn h1 hs rs _).sub.ext ok.sub hn ok.s8 fun g hg => ?_
    have e := whole_mem (p := p) rs hg (woR n s (p : Int))
    have e2 := cone_mem ok hp he hg
    rw [← wo_due ok hp, xsum_filter] at e2
    have e3 : decide (g ∈ wholeF n s p rs (woR n s (p : Int))) = decide (g ∈ rs) := by
      rw [e, ← e2]
      exact xsum_congr fun r hr => by rw [bd_fc hg (N0.fnd hr)]
    exact decide_eq_decide.mp e3
end
end NA

set_option Elab.async false
set_option linter.all false
set_option maxRecDepth 100000
set_option maxHeartbeats 4000000
set_option autoImplicit false
namespace NA
open PySem PySem.Spec PyProof.Rows L2
abbrev sLaw : Stmt := topS 49
abbrev nLaw : List Str := ["_law_script", "_law_n", "_law_size", "_law_first", "_law_second", "_law_every", "_law_strange", "_law_drawn", "_law_both", "_law_whole", "_law_p", "_law_most", "_law_room", "_law_wrong", "_law_number_here"]
theorem scLaw : FnScope nLaw ["_law_script"] (defScope sLaw) := ⟨rfl, rfl, rfl, by decide +kernel, rfl, by decide +kernel, by decide +kernel⟩
def nsz : List Nat := [5, 4, 6, 5, 4, 3, 5, 2, 4, 5, 3, 6, 4, 5, 2, 1]
theorem nsz_ok : ∀ j : Nat, j < 16 → 1 ≤ nsz.getD j 0 ∧ nsz.getD j 0 < 7 := by decide +kernel
theorem allR_ne : ∀ n : Nat, n < 7 → ∀ s : Nat, s < 7 → s ≤ n → 0 < (allR n s).length := by decide +kernel
theorem apex_shaped : PyData.canLay0 (.str "apex") = true := by decide +kernel
theorem number_shaped : PyData.canLay0 (.str "number") = true := by decide +kernel
def rLaw : List D → D → Prop := fun ds d => ∃ ns : List Int, ns.length ≤ 63 ∧ ds = [.scr ns] ∧ d = .bl true
theorem fmod_nat (c : Int) {m : Nat} (hm : 0 < m) : ∃ j : Nat, j < m ∧ c.fmod (m : Int) = (j : Int) := by
  refine ⟨(c.fmod (m : Int)).toNat, ?_, ?_⟩
  · rw [Int.fmod_eq_emod_of_nonneg _ (by omega)]
    have h1 := Int.emod_nonneg c (show (m : Int) ≠ 0 by omega)
    have h2 := Int.emod_lt_of_pos c (show (0 : Int) < m by omega)
    omega
  · rw [Int.fmod_eq_emod_of_nonneg _ (by omega)]
    have h1 := Int.emod_nonneg c (show (m : Int) ≠ 0 by omega)
    omega
section
variable {K : PySem.W.Frag} {C : Addr} {S0 H0 : Hp} {Γ : List Sl} {E : AE} {t u : TS}
theorem sv_seqP (P : List Sl → Prop) (h : SvE K C S0 H0 t Γ { E with nx := P }) (k : ∀ Γ', P Γ' → SvE K C S0 H0 u Γ' E) : SvE K C S0 H0 (tSeq t u) Γ E := sv_seq (sv_mono h k (fun _ z => z) (fun _ z => z) (fun _ z => z))
end
section
variable {P : Program} {w : World} {K : PySem.W.Frag} {mg : Str → Option Value} {base : Heap} {C Cm Cn : Addr}
theorem ok_law {k : Nat} {f : Addr} {fd : FuncData} (F : Fun K "law" "law" sLaw f fd) (B : Bl mg) (KB : KDef P w K mg base CX0 k C "Book" ["self", "places", "size", "rooms"] (spI K C rInit)) (OB : ODef P w K mg base CX0 k C "__xor__" ["self", "other"] (spR K C rXor))
    (D_law_cell : Def P w K mg base CX0 k "_law_cell" ["_law_script", "_law_k"] (spR K C rCell)) (D_law_even_rooms : Def P w K mg base CX0 k "_law_even_rooms" ["_law_n", "_law_size", "_law_cell_here"] (spR K C rEvR))
    (D_law_rooms : Def P w K mg base CX0 k "_law_rooms" ["_law_items", "_law_size"] (spR K C (rSubs 6))) (D_law_sum : Def P w K mg base CX0 k "_law_sum" ["_law_rows"] (spR K C rSum'))
    (D_law_is : Def P w K mg base CX0 k "_law_is" ["_law_book", "_law_n", "_law_size", "_law_rooms_here"] (spR K C rIs)) (D_law_back : Def P w K mg base CX0 k "_law_back" ["_law_n", "_law_size", "_law_rooms_here", "_law_outside"] (spR K C rBack))
    (D_law_number : Def P w K mg base CX0 k "_law_number" ["_law_n", "_law_size", "_law_rooms_here", "_law_outside"] (spR K C rNumL)) (D_law_same : Def P w K mg base CX0 k "_law_same" ["_law_actual", "_law_due"] (spR K C (rSame 5)))
    (D_book_number : Def P w K mg base (L2.CX P w) k "book_number" ["book", "apex"] (spX K C Cm Cn rNum rFillX)) (D_law_spans : Def P w K mg base CX0 k "_law_spans" ["_law_n", "_law_size", "_law_rooms_here", "_law_strange", "_law_outside"] (spR K C rSpans))
    (D_law_without : Def P w K mg base CX0 k "_law_without" ["_law_n", "_law_size", "_law_outside"] (spR K C rWithout)) (D_even_book_count : Def P w K mg base CX0 k "even_book_count" ["places", "size"] (spR K C rCount))
    (D_law_refused : Def P w K mg base CX0 k "_law_refused" ["_law_door", "_law_n", "_law_size", "_law_rooms_here", "_law_number_here", "_law_outside"] (spR K C rRefused)) (D_law_refusals : Def P w K mg base CX0 k "_law_refusals" ["_law_n", "_law_size", "_law_strange", "_law_outside"] (spR K C rRefs)) :
    FnOk P w K mg base CX0 (k + 2) f fd ["_law_script"] (spR K C rLaw) := by
  refine fn_ev F scLaw (fun ds d h => by obtain ⟨ns, _, rfl, _⟩ := h; rfl) (fun ds d h cdv A outer st H E hr => ?_)
  obtain ⟨ns, hl, rfl, rfl⟩ := h
  refine ⟨_, (pss_cons (ps_set (i := 1) scLaw.nd rfl (.inl rfl) (pe_ix (kIxL K) (pe_lst (pa_cons pe_int (pa_cons pe_int (pa_cons pe_int (pa_cons pe_int (pa_cons pe_int (pa_cons pe_int (pa_cons pe_int (pa_cons pe_int (pa_cons pe_int (pa_cons pe_int (pa_cons pe_int (pa_cons pe_int (pa_cons pe_int (pa_cons pe_int (pa_cons pe_int (pa_cons pe_int pa_nil))))))))))))))))) (pe_op op_modN (pe_callTy cr_int (by rfl) B.int (by decide +kernel) (pa_cons (pe_cd D_law_cell (hr.mono (by omega)) (by rfl) pass0 (pa_cons (pv 0) (pa_cons pe_int pa_nil))) pa_nil)) pe_int) (fun _ _ => rfl)))
      (pss_cons (ps_set (i := 2) scLaw.nd rfl (.inl rfl) (pe_op op_add pe_int (pe_op op_modN (pe_callTy cr_int (by rfl) B.int (by decide +kernel) (pa_cons (pe_cd D_law_cell (hr.mono (by omega)) (by rfl) pass0 (pa_cons (pv 0) (pa_cons pe_int pa_nil))) pa_nil)) (pe_callB (cr_max2 rfl) (by rfl) B.max (by decide +kernel) (pa_cons pe_int (pa_cons (pe_op op_sub (pv 1) pe_int) pa_nil))))))
      (pss_cons (ps_if (pt_cmpR op_eq (pe_op op_modN (pe_callTy cr_int (by rfl) B.int (by decide +kernel) (pa_cons (pe_cd D_law_cell (hr.mono (by omega)) (by rfl) pass0 (pa_cons (pv 0) (pa_cons pe_int pa_nil))) pa_nil)) pe_int) pe_int (nomark _)) (pss_one (ps_set (i := 2) scLaw.nd rfl (.inl rfl) (pv 1))) pss_nil)
      (pss_cons (ps_set (i := 3) scLaw.nd rfl (.inl rfl) (pe_cd D_law_even_rooms (hr.mono (by omega)) (by rfl) pass0 (pa_cons (pv 1) (pa_cons (pv 2) (pa_cons (pe_cd D_law_cell (hr.mono (by omega)) (by rfl) pass0 (pa_cons (pv 0) (pa_cons pe_int pa_nil))) pa_nil)))))
      (pss_cons (ps_set (i := 4) scLaw.nd rfl (.inl rfl) (pe_cd D_law_even_rooms (hr.mono (by omega)) (by rfl) pass0 (pa_cons (pv 1) (pa_cons (pv 2) (pa_cons (pe_cd D_law_cell (hr.mono (by omega)) (by rfl) pass0 (pa_cons (pv 0) (pa_cons pe_int pa_nil))) pa_nil)))))
      (pss_cons (ps_set (i := 5) scLaw.nd rfl (.inl rfl) (pe_cd D_law_rooms (hr.mono (by omega)) (by rfl) pass0 (pa_cons (pe_tupRg rfl (by rfl) B.tuple (prg_1 (by rfl) B.range (pv 1))) (pa_cons (pv 2) pa_nil))))
      (pss_cons (ps_set (i := 6) scLaw.nd rfl (.inl rfl) (pe_cd D_law_sum (hr.mono (by omega)) (by rfl) pass0 (pa_cons (pe_lst (pa_cons (pv 3) (pa_cons (pe_lst (pa_cons (pe_ix (kIxL K) (pv 5) (pe_op op_modN (pe_callTy cr_int (by rfl) B.int (by decide +kernel) (pa_cons (pe_cd D_law_cell (hr.mono (by omega)) (by rfl) pass0 (pa_cons (pv 0) (pa_cons pe_int pa_nil))) pa_nil)) (pe_callB (kLen K) (by rfl) B.len (by decide +kernel) (pa_cons (pv 5) pa_nil))) (fun _ _ => rfl)) pa_nil)) pa_nil))) pa_nil)))
      (pss_cons (ps_set (i := 7) scLaw.nd rfl (.inl rfl) (pe_op op_modN (pe_callTy cr_int (by rfl) B.int (by decide +kernel) (pa_cons (pe_cd D_law_cell (hr.mono (by omega)) (by rfl) pass0 (pa_cons (pv 0) (pa_cons pe_int pa_nil))) pa_nil)) (pv 1)))
      (pss_cons (ps_set (i := 8) scLaw.nd rfl (.inl rfl) (pe_cd D_law_sum (hr.mono (by omega)) (by rfl) pass0 (pa_cons (pe_lst (pa_cons (pv 3) (pa_cons (pv 4) pa_nil))) pa_nil)))
      (pss_cons (ps_set (i := 9) scLaw.nd rfl (.inl rfl) (pe_op (op_od OB (hr.mono (by omega)) pass0) (pe_kd KB (hr.mono (by omega)) (by rfl) pass0 (pa_cons (pv 1) (pa_cons (pv 2) (pa_cons (pv 3) pa_nil)))) (pe_kd KB (hr.mono (by omega)) (by rfl) pass0 (pa_cons (pv 1) (pa_cons (pv 2) (pa_cons (pv 4) pa_nil))))))
      (pss_cons (ps_if (pt_not (pt_val (pe_cd D_law_is (hr.mono (by omega)) (by rfl) pass0 (pa_cons (pv 9) (pa_cons (pv 1) (pa_cons (pv 2) (pa_cons (pv 8) pa_nil))))))) (pss_one (ps_ret pe_bl)) pss_nil)
      (pss_cons (ps_for PassesOwn.never (by rfl) (pi_range1 (by rfl) B.range (pa_cons (pv 1) pa_nil)) (pg_name (i := 10) scLaw.nd rfl (.inl rfl))
       (pss_cons (ps_if (PW.pt (pw_or (pt_not (pt_val (pe_cd D_law_back (hr.mono (by omega)) (by rfl) pass0 (pa_cons (pv 1) (pa_cons (pv 2) (pa_cons (pv 3) (pa_cons (pv 10) pa_nil))))))) (pw_or1 (PW.pt (pw_and (pt_cmpR op_eq (pv 10) (pv 7) (nomark _)) (pw_and1 (pt_not (pt_val (pe_cd D_law_back (hr.mono (by omega)) (by rfl) pass0 (pa_cons (pv 1) (pa_cons (pv 2) (pa_cons (pv 8) (pa_cons (pv 10) pa_nil))))))))))))) (pss_one (ps_ret pe_bl)) pss_nil)
       (pss_cons (ps_set (i := 14) scLaw.nd rfl (.inl rfl) (pe_op op_xor (pe_cd D_law_number (hr.mono (by omega)) (by rfl) pass0 (pa_cons (pv 1) (pa_cons (pv 2) (pa_cons (pv 3) (pa_cons (pv 10) pa_nil))))) (pe_cd D_law_number (hr.mono (by omega)) (by rfl) pass0 (pa_cons (pv 1) (pa_cons (pv 2) (pa_cons (pv 4) (pa_cons (pv 10) pa_nil)))))))
       (pss_cons (ps_if (pt_not (pt_val (pe_cd D_law_same (hr.mono (by omega)) (by rfl) pass0 (pa_cons (pe_cd D_book_number (hr.mono (by omega)) (by rfl) passL (pa_cons (pv 9) (pa_cons (pv 10) pa_nil))) (pa_cons (pv 14) pa_nil))))) (pss_one (ps_ret pe_bl)) pss_nil)
       (pss_one (ps_if (PW.pt (pw_and (PW.pt (pw_or (pt_cmpR op_lt (pv 1) pe_int (nomark _)) (pw_or1 (pt_cmpR op_eq (pv 10) (pv 7) (nomark _))))) (pw_and1 (pt_not (pt_val (pe_cd D_law_spans (hr.mono (by omega)) (by rfl) pass0 (pa_cons (pv 1) (pa_cons (pv 2) (pa_cons (pv 3) (pa_cons (pv 6) (pa_cons (pv 10) pa_nil))))))))))) (pss_one (ps_ret pe_bl)) pss_nil))))))
      (pss_cons (ps_set (i := 11) scLaw.nd rfl (.inl rfl) pe_int)
      (pss_cons (ps_for PassesOwn.never (by rfl) (pi_list (pe_cd D_law_without (hr.mono (by omega)) (by rfl) pass0 (pa_cons (pv 1) (pa_cons (pv 2) (pa_cons (pv 7) pa_nil))))) (pg_name (i := 12) scLaw.nd rfl (.inl rfl))
       (pss_one (ps_set (i := 11) scLaw.nd rfl (.inl rfl) (pe_op op_mul pe_int (pv 11)))))
      (pss_cons (ps_if (pt_not (pt_val (pe_cd D_law_same (hr.mono (by omega)) (by rfl) pass0 (pa_cons (pe_cd D_even_book_count (hr.mono (by omega)) (by rfl) pass0 (pa_cons (pv 1) (pa_cons (pv 2) pa_nil))) (pa_cons (pv 11) pa_nil))))) (pss_one (ps_ret pe_bl)) pss_nil)
      (pss_cons (ps_for PassesOwn.never (by rfl) (pi_list (pe_lst (pa_cons (pe_un un_neg pe_int) (pa_cons (pv 11) (pa_cons (pe_op op_add (pe_op op_add (pv 11) pe_int) (pv 7)) pa_nil))))) (pg_name (i := 13) scLaw.nd rfl (.inl rfl))
       (pss_one (ps_if (PW.pt (pw_or (pt_cmpR (op_neD hr.units) (pe_cd D_law_refused (hr.mono (by omega)) (by rfl) pass0 (pa_cons pe_int (pa_cons (pv 1) (pa_cons (pv 2) (pa_cons (pe_lst pa_nil) (pa_cons (pv 13) (pa_cons (pv 7) pa_nil))))))) (pe_tup (pa_cons pe_str (pa_cons pe_bl pa_nil))) (nomark _)) (pw_or1 (pt_cmpR (op_neD hr.units) (pe_cd D_law_refused (hr.mono (by omega)) (by rfl) pass0 (pa_cons pe_int (pa_cons (pv 1) (pa_cons (pv 2) (pa_cons (pe_lst pa_nil) (pa_cons (pv 13) (pa_cons (pv 1) pa_nil))))))) (pe_tup (pa_cons pe_str (pa_cons pe_bl pa_nil))) (nomark _))))) (pss_one (ps_ret pe_bl)) pss_nil)))
      (pss_one (ps_ret (pe_and (pe_cd D_law_refusals (hr.mono (by omega)) (by rfl) pass0 (pa_cons (pv 1) (pa_cons (pv 2) (pa_cons (pv 6) (pa_cons (pv 7) pa_nil))))) (pe_one (pe_cmpR (op_eqD hr.units) (pe_cd D_law_refused (hr.mono (by omega)) (by rfl) pass0 (pa_cons pe_int (pa_cons (pv 1) (pa_cons (pv 2) (pa_cons (pe_lst pa_nil) (pa_cons (pe_op op_sub (pv 11) pe_int) (pa_cons (pv 7) pa_nil))))))) (pe_tup pa_nil) (nomark _)))))))))))))))))))))), fun S0 H0 => ?_⟩
  have cell : ∀ {Γ : List Sl} {j : Nat}, Γ[0]? = some (.val (.scr ns)) → j ≤ 100 → EvE K C (tCall (spR K C rCell) [] E0 (tCons (tVar 0) (tCons (tC (.int (j : Int))) tNil))) Γ (.int (cellF ns j)) := fun h0 hj =>
    ev_call0 (ea_cons (ev_var h0) (ea_cons ev_int ea_nil)) ⟨ns, _, rfl, hj, hl, rfl⟩
  obtain ⟨j0, hj0, e0⟩ := fmod_nat (cellF ns 0) (show 0 < 16 by decide)
  have hnn := nsz_ok j0 hj0
  have hat0 : (nsz.map fun (n : Nat) => D.int (n : Int))[j0]? = some (.int (nsz.getD j0 0 : Nat)) := by
    have : j0 < nsz.length := hj0
    rw [List.getElem?_map, List.getElem?_eq_getElem this, List.getD_eq_getElem?_getD, List.getElem?_eq_getElem this]; rfl
  generalize nsz.getD j0 0 = n at hnn hat0
  obtain ⟨hn1, hn⟩ := hnn
  refine sv_seq (sv_asg (d := .int (n : Int)) (ev_op (d1 := .lst (nsz.map fun (n : Nat) => D.int (n : Int))) (ev_lst (ea_cons ev_int (ea_cons ev_int (ea_cons ev_int (ea_cons ev_int (ea_cons ev_int (ea_cons ev_int (ea_cons ev_int (ea_cons ev_int (ea_cons ev_int (ea_cons ev_int (ea_cons ev_int (ea_cons ev_int (ea_cons ev_int (ea_cons ev_int (ea_cons ev_int (ea_cons ev_int ea_nil)))))))))))))))) (by decide)) (ev_op (ev_cb (ea_cons (cell (j := 0) rfl (by decide)) ea_nil) rc_int) ev_int (rv_I (by decide))) (rv_ixL (j := j0) e0 hat0)) ?_)
  obtain ⟨s0, hs0a, hs0b, hs0⟩ : ∃ s : Nat, 1 ≤ s ∧ s ≤ n ∧ (1 : Int) + (cellF ns 1).fmod (if (n : Int) - 1 > 1 then (n : Int) - 1 else 1) = (s : Int) := by
    by_cases h : (n : Int) - 1 > 1
    · rw [if_pos h]
      obtain ⟨j, hj, e⟩ := fmod_nat (cellF ns 1) (show 0 < n - 1 by omega)
      have : ((n - 1 : Nat) : Int) = (n : Int) - 1 := by omega
      rw [this] at e
      exact ⟨1 + j, by omega, by omega, by rw [e]; omega⟩
    · rw [if_neg h]
      obtain ⟨j, hj, e⟩ := fmod_nat (cellF ns 1) (show 0 < 1 by decide)
      have e : (cellF ns 1).fmod 1 = (j : Int) := e
      exact ⟨1, by omega, by omega, by rw [e]; omega⟩
  refine sv_seq (sv_asg (d := .int (s0 : Int)) (ev_is (ev_op ev_int (ev_op (ev_cb (ea_cons (cell (j := 1) rfl (by decide)) ea_nil) rc_int) (ev_cb (ea_cons ev_int (ea_cons (ev_op (ev_var rfl) ev_int rv_I0) ea_nil)) rc_max) (rv_I (by split <;> omega))) rv_I0) (congrArg D.int hs0)) ?_)
  refine sv_seqP (fun Γ => ∃ s : Nat, 1 ≤ s ∧ s ≤ n ∧ Γ = [.val (.scr ns), .val (.int (n : Int)), .val (.int (s : Int)), .no, .no, .no, .no, .no, .no, .no, .no, .no, .no, .no, .no])
    (sv_if (et_test (ev_op (ev_op (ev_cb (ea_cons (cell (j := 4) rfl (by decide)) ea_nil) rc_int) ev_int (rv_I (by decide))) ev_int rv_eqI)) (fun _ => sv_asg (ev_var rfl) ⟨n, hn1, Nat.le_refl _, rfl⟩) (fun _ => sv_next ⟨s0, hs0a, hs0b, rfl⟩)) (fun Γ' hΓ => ?_)
  obtain ⟨s, h1, hsn, rfl⟩ := hΓ
  have hs7 : s < 7 := by omega
  refine sv_seq (sv_asg (ev_call0 (ea_cons (ev_var rfl) (ea_cons (ev_var rfl) (ea_cons (cell (j := 10) rfl (by decide)) ea_nil))) ⟨n, s, _, hn, h1, hsn, rfl, rfl⟩) ?_)
  refine sv_seq (sv_asg (ev_call0 (ea_cons (ev_var rfl) (ea_cons (ev_var rfl) (ea_cons (cell (j := 11) rfl (by decide)) ea_nil))) ⟨n, s, _, hn, h1, hsn, rfl, rfl⟩) ?_)
  have okA : BOk n s (evR n s (cellF ns 10)) := ev_ok hn h1 hsn
  have okB : BOk n s (evR n s (cellF ns 11)) := ev_ok hn h1 hsn
  have evA : oddF n s (evR n s (cellF ns 10)) = [] := ev_even hn h1 hsn
  have evB : oddF n s (evR n s (cellF ns 11)) = [] := ev_even hn h1 hsn
  generalize evR n s (cellF ns 10) = a at okA evA ⊢
  generalize evR n s (cellF ns 11) = b at okB evB ⊢
  refine sv_seq (sv_asg (d := rooms (allR n s)) (ev_call0 (ea_cons (ev_is (ev_tupRg (n := (n : Int)) (ev_var rfl) (by omega) (by omega)) (d := room (upI n)) (by rw [Int.toNat_natCast, upTo_eq])) (ea_cons (ev_var rfl) ea_nil)) ⟨upI n, s, rfl, by rw [upI_len]; omega, by omega, by omega, rfl⟩) ?_)
  have hne := allR_ne n hn s hs7 hsn
  obtain ⟨j2, hj2, e2⟩ := fmod_nat (cellF ns 2) hne
  obtain ⟨e, hat2⟩ : ∃ e, (allR n s)[j2]? = some e := ⟨_, List.getElem?_eq_getElem hj2⟩
  have hmem := List.mem_of_getElem? hat2
  have hat2D : ((allR n s).map room)[j2]? = some (room e) := by rw [List.getElem?_map, hat2]; rfl
  have okE := one_ok hn h1 hsn hmem
  have okS : BOk n s (xorR n s a [e]) := xor_ok okA
  obtain ⟨fo, hfo1, hfo2⟩ := strange_odd okA evA hmem
  have hsne := strange_ne okA evA hmem
  refine sv_seq (sv_asg (d := rooms (xorR n s a [e])) (ev_call0 (ea_cons (ev_lst (ds := [a, [e]].map rooms) (ea_cons (ev_var rfl) (ea_cons (ev_lst (ea_cons (ev_op (ev_var rfl) (ev_op (ev_cb (ea_cons (cell (j := 2) rfl (by decide)) ea_nil) rc_int) (ev_cb (ea_cons (ev_var rfl) ea_nil) rc_lenL) (rv_I (by rw [List.length_map]; omega))) (rv_ixL (j := j2) (by rw [List.length_map]; exact e2) hat2D)) ea_nil) (by simp)) ea_nil)) (by simp)) ea_nil) ⟨n, s, [a, [e]], ?_, by simp, by simp, rfl, by rw [sum_xor okA okE]⟩) ?_)
  · intro q hq
    rcases List.mem_cons.mp hq with rfl | hq
    · exact okA
    · have : q = [e] := by simpa using hq
      rw [this]; exact okE
  generalize xorR n s a [e] = stg at okS hfo2 hsne ⊢
  obtain ⟨q, hq, e3⟩ := fmod_nat (cellF ns 3) (show 0 < n by omega)
  refine sv_seq (sv_asg (d := .int (q : Int)) (ev_is (ev_op (ev_cb (ea_cons (cell (j := 3) rfl (by decide)) ea_nil) rc_int) (ev_var rfl) (rv_I (by omega))) (congrArg D.int e3)) ?_)
  have okX : BOk n s (xorR n s a b) := xor_ok okA
  have evX : oddF n s (xorR n s a b) = [] := xor_even okA okB evA evB
  refine sv_seq (sv_asg (d := rooms (xorR n s a b)) (ev_call0 (ea_cons (ev_lst (ds := [a, b].map rooms) (ea_cons (ev_var rfl) (ea_cons (ev_var rfl) ea_nil)) (by simp)) ea_nil) ⟨n, s, [a, b], ?_, by simp, by simp, rfl, by rw [sum_xor okA okB]⟩) ?_)
  · intro r hr'
    rcases List.mem_cons.mp hr' with rfl | hr'
    · exact okA
    · have : r = b := by simpa using hr'
      rw [this]; exact okB
  refine sv_seq (sv_asg (d := bk n s (xorR n s a b)) (ev_op (ev_make (ea_cons (ev_var rfl) (ea_cons (ev_var rfl) (ea_cons (ev_var rfl) ea_nil))) (mk_sub hn h1 hsn okA.sub)) (ev_make (ea_cons (ev_var rfl) (ea_cons (ev_var rfl) (ea_cons (ev_var rfl) ea_nil))) (mk_sub hn h1 hsn okB.sub)) (rv_own ⟨n, s, a, b, okA, okB, rfl, rfl⟩)) ?_)
  refine sv_seq (sv_if (et_not (et_B (ev_call0 (d := .bl true) (ea_cons (ev_var rfl) (ea_cons (ev_var rfl) (ea_cons (ev_var rfl) (ea_cons (ev_var rfl) ea_nil)))) ⟨n, s, xorR n s a b, okX, evX, rfl, rfl⟩))) (fun z => by cases z) (fun _ => sv_next ?_))
  refine sv_seq (sv_forR (n := (n : Int)) (fun i Γ => ∃ s10 s14, Γ = [.val (.scr ns), .val (.int (n : Int)), .val (.int (s : Int)), .val (rooms a), .val (rooms b), .val (rooms (allR n s)), .val (rooms stg), .val (.int (q : Int)), .val (rooms (xorR n s a b)), .val (bk n s (xorR n s a b)), s10, .no, .no, .no, s14]) (ea_cons (ev_var rfl) ea_nil) (by omega) ⟨_, _, rfl⟩ (fun p Γ1 hp hI => ?_) (fun Γ1 hI => ?_))
  · obtain ⟨s10, s14, rfl⟩ := hI
    have hp' : p < n := by omega
    have bkA := back_ok okA hp' evA
    have bkX := back_ok okX hp' evX
    refine step_name (sv_seq (sv_if (b := false) (et_is (et_or (et_not (et_B (ev_call0 (d := .bl true) (ea_cons (ev_var rfl) (ea_cons (ev_var rfl) (ea_cons (ev_var rfl) (ea_cons (ev_var rfl) ea_nil)))) ⟨n, s, p, a, bkA, rfl, rfl⟩))) (fun _ => et_and (b' := false) (et_test (ev_op (ev_var rfl) (ev_var rfl) rv_eqI)) (fun _ => et_not (et_B (ev_call0 (d := .bl true) (ea_cons (ev_var rfl) (ea_cons (ev_var rfl) (ea_cons (ev_var rfl) (ea_cons (ev_var rfl) ea_nil)))) ⟨n, s, p, xorR n s a b, bkX, rfl, rfl⟩))))) (by simp)) (fun z => by cases z) (fun _ => sv_next ?_)))
    refine sv_seq (sv_asg (d := natD (numL (woR n s (p : Int)) fun r => decide (r ∈ xorR n s a b))) (ev_is (ev_op (ev_call0 (ea_cons (ev_var rfl) (ea_cons (ev_var rfl) (ea_cons (ev_var rfl) (ea_cons (ev_var rfl) ea_nil)))) ⟨n, s, p, a, hn, by omega, hp', rfl, rfl⟩) (ev_call0 (ea_cons (ev_var rfl) (ea_cons (ev_var rfl) (ea_cons (ev_var rfl) (ea_cons (ev_var rfl) ea_nil)))) ⟨n, s, p, b, hn, by omega, hp', rfl, rfl⟩) rv_I0) ?_) ?_)
    · rw [xor_nn, num_both hn (by omega) hp']; rfl
    refine sv_seq (sv_if (et_not (et_B (ev_call0 (d := .bl true) (ea_cons (ev_callX0 (ea_cons (ev_var rfl) (ea_cons (ev_var rfl) ea_nil)) ⟨n, s, p, xorR n s a b, okX, hp', evX, rfl, rfl⟩) (ea_cons (ev_var rfl) ea_nil)) ⟨_, sz_int 5 _, rfl, rfl⟩))) (fun z => by cases z) (fun _ => sv_next ?_))
    exact sv_if (b := false) (et_is (et_and (b' := false) (et_or (et_test (ev_op (ev_var rfl) ev_int rv_B0)) (fun _ => et_test (ev_op (ev_var rfl) (ev_var rfl) rv_eqI))) (fun _ => et_not (et_B (ev_call0 (d := .bl true) (ea_cons (ev_var rfl) (ea_cons (ev_var rfl) (ea_cons (ev_var rfl) (ea_cons (ev_var rfl) (ea_cons (ev_var rfl) ea_nil))))) ⟨n, s, p, a, stg, spans_ok okA evA hp' okS hfo2, rfl, rfl⟩)))) (by simp)) (fun z => by cases z) (fun _ => sv_next ⟨_, _, rfl⟩)
  obtain ⟨s10, s14, rfl⟩ := hI
  refine sv_seq (sv_asg ev_int ?_)
  have hcl := cmb_len n hn s hs7 q hq
  have hcb := comb_le n hn s hs7
  refine sv_seq (sv_forL (ds := (woR n s (q : Int)).map room) (fun i Γ => ∃ s12, Γ = [.val (.scr ns), .val (.int (n : Int)), .val (.int (s : Int)), .val (rooms a), .val (rooms b), .val (rooms (allR n s)), .val (rooms stg), .val (.int (q : Int)), .val (rooms (xorR n s a b)), .val (bk n s (xorR n s a b)), s10, .val (.int (2 ^ i)), s12, .no, s14]) (ev_call0 (ea_cons (ev_var rfl) (ea_cons (ev_var rfl) (ea_cons (ev_var rfl) ea_nil))) ⟨n, s, q, hn, by omega, rfl, rfl⟩) ⟨_, rfl⟩ (fun i d Γ1 hd hI => ?_) (fun Γ1 hI => ?_))
  · obtain ⟨s12, rfl⟩ := hI
    refine step_name (sv_asg (ev_op ev_int (ev_var rfl) (rv_I (.inl (by decide)))) ⟨.val d, ?_⟩)
    rw [Int.pow_succ, Int.mul_comm]; rfl
  obtain ⟨s12, rfl⟩ := hI
  rw [List.length_map, hcl]
  have okN : BOk n s [] := ⟨hn, h1, hsn, List.nil_sublist _⟩
  have hpw : (1 : Int) ≤ 2 ^ cmb n s := by
    have : 0 < 2 ^ cmb n s := Nat.two_pow_pos _
    have e : ((2 ^ cmb n s : Nat) : Int) = 2 ^ cmb n s := by simp
    omega
  refine sv_seq (sv_if (et_not (et_B (ev_call0 (d := .bl true) (ea_cons (ev_call0 (d := .int (2 ^ cmb n s)) (ea_cons (ev_var rfl) (ea_cons (ev_var rfl) ea_nil)) ⟨n, s, okN, rfl, rfl⟩) (ea_cons (ev_var rfl) ea_nil)) ⟨_, sz_int 5 _, rfl, rfl⟩))) (fun z => by cases z) (fun _ => sv_next ?_))
  have ref : ∀ (m out : Int) (x : XD), rNBX [.int (n : Int), .int (s : Int), .int m, .int out] x → rRefused [.int 3, .int (n : Int), .int (s : Int), rooms [], .int m, .int out] (excD x) := fun m out x hx => ⟨n, s, [], 3, m, out, okN, rfl, .inr (.inr (.inl ⟨rfl, x, hx, rfl⟩))⟩
  have hqin : inn n (q : Int) := ⟨by omega, by omega⟩
  have hnin : ¬ inn n (n : Int) := fun h => by have := h.2; omega
  refine sv_seq (sv_forL (ds := [.int (-1), .int (2 ^ cmb n s), .int (2 ^ cmb n s + 1 + (q : Int))]) (fun i Γ => ∃ s13, Γ = [.val (.scr ns), .val (.int (n : Int)), .val (.int (s : Int)), .val (rooms a), .val (rooms b), .val (rooms (allR n s)), .val (rooms stg), .val (.int (q : Int)), .val (rooms (xorR n s a b)), .val (bk n s (xorR n s a b)), s10, .val (.int (2 ^ cmb n s)), s12, s13, s14]) (ev_lst (ea_cons (ev_un ev_int ru_neg) (ea_cons (ev_var rfl) (ea_cons (ev_op (ev_op (ev_var rfl) ev_int rv_I0) (ev_var rfl) rv_I0) ea_nil))) (by simp)) ⟨_, rfl⟩ (fun i d Γ1 hd hI => ?_) (fun Γ1 hI => ?_))
  · obtain ⟨s13, rfl⟩ := hI
    obtain ⟨z, rfl, hz⟩ : ∃ z : Int, d = .int z ∧ ¬ (0 ≤ z ∧ z < 2 ^ cmb n s) := by
      match i, hd with
      | 0, hd => exact ⟨-1, (Option.some.inj hd).symm, fun h => by omega⟩
      | 1, hd => exact ⟨2 ^ cmb n s, (Option.some.inj hd).symm, fun h => by omega⟩
      | 2, hd => exact ⟨2 ^ cmb n s + 1 + (q : Int), (Option.some.inj hd).symm, fun h => by omega⟩
      | i + 3, hd => simp at hd
    refine step_name (sv_if (b := false) (et_is (et_or (et_test (ev_op (ev_call0 (d := .tup [.str "number", .bl true]) (ea_cons ev_int (ea_cons (ev_var rfl) (ea_cons (ev_var rfl) (ea_cons (ev_lst ea_nil (by simp)) (ea_cons (ev_var rfl) (ea_cons (ev_var rfl) ea_nil)))))) (ref z q (.mis "number") ⟨n, s, q, z, okN, rfl, .inr ⟨hqin, hz, rfl⟩⟩)) (ev_tup (ea_cons ev_str (ea_cons ev_bl ea_nil)) (by simp)) (rv_neP "number" number_shaped)))
      (fun _ => et_test (ev_op (ev_call0 (d := apexD) (ea_cons ev_int (ea_cons (ev_var rfl) (ea_cons (ev_var rfl) (ea_cons (ev_lst ea_nil (by simp)) (ea_cons (ev_var rfl) (ea_cons (ev_var rfl) ea_nil)))))) (ref z n (.mis "apex") ⟨n, s, n, z, okN, rfl, .inl ⟨hnin, rfl⟩⟩)) (ev_tup (ea_cons ev_str (ea_cons ev_bl ea_nil)) (by simp)) (rv_neP "apex" apex_shaped)))) rfl) (fun z => by cases z) (fun _ => sv_next ⟨_, rfl⟩))
  obtain ⟨s13, rfl⟩ := hI
  obtain ⟨mm, hmm, hmm2⟩ : ∃ mm : Nat, mm < 2 ^ cmb n s ∧ (2 : Int) ^ cmb n s - 1 = (mm : Int) := by
    have : 0 < 2 ^ cmb n s := Nat.two_pow_pos _
    have e : ((2 ^ cmb n s : Nat) : Int) = 2 ^ cmb n s := by simp
    exact ⟨2 ^ cmb n s - 1, by omega, by omega⟩
  have hfin : rRefused [.int 3, .int (n : Int), .int (s : Int), rooms [], .int (2 ^ cmb n s - 1), .int (q : Int)] (.tup []) := ⟨n, s, [], 3, _, q, okN, rfl, .inr (.inr (.inr ⟨rfl, ⟨_, n, s, q, mm, okN, hq, hmm, by rw [hmm2]; rfl, rfl⟩, rfl⟩))⟩
  have hsh : SeqAt.shaped (D.py (.tup [])) = true := by decide +kernel
  exact sv_ret (ev_is (ev_and (b' := true) (ev_call0 (d := .bl true) (ea_cons (ev_var rfl) (ea_cons (ev_var rfl) (ea_cons (ev_var rfl) (ea_cons (ev_var rfl) ea_nil)))) ⟨n, s, q, stg, okS, hq, hsne, rfl, rfl⟩) (fun _ => ev_op (ev_call0 (d := .tup []) (ea_cons ev_int (ea_cons (ev_var rfl) (ea_cons (ev_var rfl) (ea_cons (ev_lst ea_nil (by simp)) (ea_cons (ev_op (ev_var rfl) ev_int rv_I0) (ea_cons (ev_var rfl) ea_nil)))))) hfin) (ev_tup ea_nil (by simp)) (rv_eqD (b := true) rfl rfl hsh hsh (SeqAt.eqv_refl _ (SeqAt.canLay_of_shaped hsh))))) rfl) rfl
end
end NA

set_option Elab.async false
set_option linter.all false
set_option maxRecDepth 100000
set_option maxHeartbeats 4000000
set_option autoImplicit false
namespace NA
open PySem PySem.Spec PyProof.Rows L2
/-! ### what the text says of each def, each class -/
section
variable {K : PySem.W.Frag}
def GF (K : PySem.W.Frag) (x : Str) (st : Stmt) : Prop := ∃ f fd, Fun K x x st f fd ∧ PySem.W.nsIn K mainGlobals x = some (some (.ref f))
theorem gf_mk {x : Str} {st : Stmt} {f : Addr} {od an : Option Addr} {sl : Array (Option Value)} {oc kV dc pm cd ct : Value} (a : PySem.W.nsIn K mainGlobals x = some (some (.ref f)))
    (l : K.lookup f = some ⟨oc, od, .func (PySem.W.fnOf x x (defArgs st) (defBody st) (defScope st) .none kV dc pm an cd ct), sl⟩) (c : PySem.W.codeIn K cd x = true) (k : PySem.W.keepIn K (.ref f) = true) : GF K x st := ⟨f, _, fun_mk l c k, a⟩
def GD (K : PySem.W.Frag) (x : Str) (st : Stmt) : Prop := ∃ f fd, FunD K x x (defArgs st) (defBody st) (defScope st) [.int 0] [] f fd ∧ PySem.W.nsIn K mainGlobals x = some (some (.ref f))
theorem gd_mk {x : Str} {st : Stmt} {f T : Addr} {od od2 an : Option Addr} {sl sl2 : Array (Option Value)} {oc oc2 kV dc pm cd ct : Value} {t n : Nat} (a : PySem.W.nsIn K mainGlobals x = some (some (.ref f)))
    (l : K.lookup f = some ⟨oc, od, .func (PySem.W.fnOf x x (defArgs st) (defBody st) (defScope st) (.ref T) kV dc pm an cd ct), sl⟩) (lT : K.lookup T = some ⟨oc2, od2, .seq #[.int 0 t] n, sl2⟩) (c : PySem.W.codeIn K cd x = true) (k : PySem.W.keepIn K (.ref f) = true) : GD K x st :=
  ⟨f, _, ⟨⟨oc, od, .ref T, kV, dc, pm, an, cd, ct, sl, rfl, l, c, .inr ⟨by simp, T, _, [.int 0 t], n, rfl, lT, rfl, .cons ⟨t, rfl⟩ .nil⟩, .inl rfl⟩, k⟩, a⟩
def MF (K : PySem.W.Frag) (C : Addr) (m q : Str) (st : Stmt) : Prop := ∃ f fd, Fun K m q st f fd ∧ PySem.W.findIn K (.ref C) m = some (some (.ref f)) ∧ PySem.W.isFn K (.ref f) = true
theorem mf_mk {C : Addr} {m q : Str} {st : Stmt} {f : Addr} {od an : Option Addr} {sl : Array (Option Value)} {oc kV dc pm cd ct : Value} (a : PySem.W.findIn K (.ref C) m = some (some (.ref f))) (i : PySem.W.isFn K (.ref f) = true)
    (l : K.lookup f = some ⟨oc, od, .func (PySem.W.fnOf m q (defArgs st) (defBody st) (defScope st) .none kV dc pm an cd ct), sl⟩) (c : PySem.W.codeIn K cd q = true) (k : PySem.W.keepIn K (.ref f) = true) : MF K C m q st := ⟨f, _, fun_mk l c k, a, i⟩
/-- the property is_even -/
def PF (K : PySem.W.Frag) (C : Addr) : Prop := ∃ p g fd, Fun K "is_even" "Book.is_even" sBookIsEven g fd ∧ PropOf K C "is_even" p g
theorem pf_mk {C p g : Addr} {rest : List Value} {od an : Option Addr} {sl : Array (Option Value)} {oc kV dc pm cd ct : Value} (a : PySem.W.findIn K (.ref C) "is_even" = some (some (.ref p))) (b : PySem.W.specialIn K (.ref p) "__get__" = some (some (.builtin "property.__get__")))
    (t : PySem.W.takesIn K (.ref p) = some true) (r : PySem.W.recIn K p "property" = some (.ref g :: rest))
    (l : K.lookup g = some ⟨oc, od, .func (PySem.W.fnOf "is_even" "Book.is_even" (defArgs sBookIsEven) (defBody sBookIsEven) (defScope sBookIsEven) .none kV dc pm an cd ct), sl⟩) (c : PySem.W.codeIn K cd "Book.is_even" = true) (k : PySem.W.keepIn K (.ref g) = true) : PF K C :=
  ⟨p, g, _, fun_mk l c k, ⟨a, b, t, ⟨rest, r⟩⟩⟩
/-- the classmethod empty -/
def EF (K : PySem.W.Frag) (C : Addr) : Prop := ∃ p g fd, Fun K "empty" "Book.empty" sBookEmpty g fd ∧ ClX.CRead K C (.type "type") ∧ ClX.CMet K C (.type "type") "empty" p g
theorem ef_mk {C p g : Addr} {rest : List Value} {od an : Option Addr} {sl : Array (Option Value)} {oc kV dc pm cd ct : Value} (rd : PySem.W.readsIn K C (.type "type") = true) (gt : PySem.W.specialIn K (.ref C) "__getattribute__" = some (some (.builtin "type.__getattribute__")))
    (a : PySem.W.findCls K (.ref C) (.type "type") "empty" = some (.get (.builtin "classmethod.__get__") (.ref p) .none (.ref C))) (r : PySem.W.recIn K p "classmethod" = some (.ref g :: rest)) (fi : PySem.W.fnIn K g = true)
    (l : K.lookup g = some ⟨oc, od, .func (PySem.W.fnOf "empty" "Book.empty" (defArgs sBookEmpty) (defBody sBookEmpty) (defScope sBookEmpty) .none kV dc pm an cd ct), sl⟩) (c : PySem.W.codeIn K cd "Book.empty" = true) (k : PySem.W.keepIn K (.ref g) = true) : EF K C :=
  ⟨p, g, _, fun_mk l c k, ⟨rd, gt⟩, ⟨a, ⟨rest, r⟩, fi⟩⟩
/-- the class Book -/
structure BF (K : PySem.W.Frag) (C : Addr) : Prop where
  bk : Bk K C
  mks : PySem.W.makesIn K C = true
  kc : PySem.W.keepIn K (.ref C) = true
  sf : PySem.W.selfFirst K C = true
  mp : ∃ t, PySem.W.findCls K (.ref C) (.type "type") "MOST_PLACES" = some (.val (.int 12 t))
theorem bf_mk {C : Addr} {t : Nat} (pg : PySem.W.plainGet K C Str.empty = true) (hd : PySem.W.hasDictIn K C = true) (po : PySem.W.plainOver K C = true) (sa : PySem.W.findIn K (.ref C) "__setattr__" = some (some (.builtin "object.__setattr__")))
    (nP : PySem.W.findIn K (.ref C) "places" = some none) (nS : PySem.W.findIn K (.ref C) "size" = some none) (nR : PySem.W.findIn K (.ref C) "rooms" = some none)
    (ha : PySem.W.findIn K (.ref C) "__class__" = some (some (.builtin "object.__class__"))) (hn : PySem.W.specialIn K (.builtin "object.__class__") "__get__" = some (some (.builtin "getset_descriptor.__get__"))) (tk : PySem.W.takesIn K (.builtin "object.__class__") = some true)
    (hm : PySem.W.mroIn K C (.type "object") = some true) (kit : PySem.W.kitOne K (.ref C) (.ref C) = some true) (mk : PySem.W.makesIn K C = true) (kc : PySem.W.keepIn K (.ref C) = true) (sf : PySem.W.selfFirst K C = true)
    (mp : PySem.W.findCls K (.ref C) (.type "type") "MOST_PLACES" = some (.val (.int 12 t))) : BF K C := ⟨⟨⟨pg, hd, po, sa⟩, nP, nS, nR, ha, hn, tk, hm, kit⟩, mk, kc, sf, ⟨t, mp⟩⟩
/-- an exception class whose __init__ says super() -/
structure XF (P : Program) (K : PySem.W.Frag) (x q : Str) (st : Stmt) (C : Addr) : Prop where
  a : PySem.W.nsIn K mainGlobals x = some (some (.ref C))
  tx : ∀ {mg : Str → Option Value}, mg x = some (.ref C) → mg "super" = none → ∃ fI, NE.ETxt P K mg x q st C fI
  xf : XfC K C
  ec : ExcC K C
theorem xf_mk {P : Program} {x q : Str} {st : Stmt} {C fI cda cc N : Addr} {nm qn : Str} {bs bm : List Value} {sn : List Str} {sub : List Value} {ab : Bool} {col : Option Bool} {dd od an ccd cld : Option Addr} {k0 k1 k2 k3 k5 : Option Value} {sl ccs csl : Array (Option Value)} {oc kV dc pm ct ccl cl : Value} {vs : Array Value} {file : Str} {tf : Nat}
    (a : PySem.W.nsIn K mainGlobals x = some (some (.ref C)))
    (xL : K.lookup C = some (excClassObj nm qn C N bs bm true sn sub ab col dd k0 k1 k2 k3 k5 "ValueError.__new__")) (rv : PySem.HandSPX.refsVE bm = true) (al : PySem.W.alongIn K "__init__" bm = some (some (.builtin "ValueError.__init__")))
    (sa : PySem.W.findIn K (.ref C) "__setattr__" = some (some (.builtin "object.__setattr__"))) (ga : PySem.W.findIn K (.ref C) "__getattribute__" = some (some (.builtin "BaseException.__getattribute__"))) (gg : PySem.W.findIn K (.ref C) "__getattr__" = some none)
    (iC : PySem.W.findIn K (.ref C) "__init__" = some (some (.ref fI))) (tI : PySem.W.typeIn K (.ref fI) = some (.type "function")) (kC : PySem.W.keepIn K (.ref C) = true) (exC : PySem.W.subIn K (.ref C) (.type "BaseException") = some true)
    (veC : PySem.W.subIn K (.ref C) (.type "ValueError") = some true) (tyC : PySem.W.typeIn K (.ref C) = some (.type "type")) (hdC : PySem.W.hasDictIn K C = true) (opq : PySem.W.nsIn K cStatics "thirdparty.any" = some none) (top : (P.main.scope.names.lookup ("super" : Str)).isSome = false)
    (l : K.lookup fI = some ⟨oc, od, .func (PySem.W.ksFn "__init__" q (defArgs st) (defBody st) (defScope st) .none kV dc pm an (.ref cda) ct cc), sl⟩) (c : PySem.W.codeIn K (.ref cda) q = true)
    (lc : K.lookup cda = some ⟨ccl, ccd, .fields vs, ccs⟩) (v2 : vs[2]? = some (.str file tf)) (fl : ((P.main.file : Str) == file) = true) (lcc : K.lookup cc = some ⟨cl, cld, .cell (some (.ref C)), csl⟩)
    (ha : PySem.W.findIn K (.ref C) "__class__" = some (some (.builtin "object.__class__"))) (hn : PySem.W.specialIn K (.builtin "object.__class__") "__get__" = some (some (.builtin "getset_descriptor.__get__"))) (tk : PySem.W.takesIn K (.builtin "object.__class__") = some true)
    (hm : PySem.W.mroIn K C (.type "object") = some true) : XF P K x q st C :=
  ⟨a, fun g s => ⟨fI, ⟨g, ⟨nm, qn, N, bs, bm, sn, sub, ab, col, dd, k0, k1, k2, k3, k5, xL, rv, al⟩, sa, ga, gg, iC, tI, kC, exC, veC, tyC, hdC, opq, s, top, ⟨oc, od, kV, dc, pm, an, ct, sl, cda, cc, l, c, ⟨ccl, ccd, vs, ccs, file, tf, lc, v2, fl⟩, cl, cld, csl, lcc⟩⟩⟩,
    ⟨ga, gg, exC, hdC⟩, ⟨ga, gg, exC, hdC, ha, hn, tk, hm⟩⟩
/-- names -/
structure NF (K : PySem.W.Frag) : Prop where
  n_len : PySem.W.nsIn K mainGlobals "len" = some none
  n_range : PySem.W.nsIn K mainGlobals "range" = some none
  n_tuple : PySem.W.nsIn K mainGlobals "tuple" = some none
  n_sorted : PySem.W.nsIn K mainGlobals "sorted" = some none
  n_list : PySem.W.nsIn K mainGlobals "list" = some none
  n_set : PySem.W.nsIn K mainGlobals "set" = some none
  n_enumerate : PySem.W.nsIn K mainGlobals "enumerate" = some none
  n_isinstance : PySem.W.nsIn K mainGlobals "isinstance" = some none
  n_bool : PySem.W.nsIn K mainGlobals "bool" = some none
  n_str : PySem.W.nsIn K mainGlobals "str" = some none
  n_abs : PySem.W.nsIn K mainGlobals "abs" = some none
  n_int : PySem.W.nsIn K mainGlobals "int" = some none
  n_max : PySem.W.nsIn K mainGlobals "max" = some none
  n_sum : PySem.W.nsIn K mainGlobals "sum" = some none
  n_super : PySem.W.nsIn K mainGlobals "super" = some none
  n_comb : PySem.W.nsIn K mainGlobals "comb" = some (some (.builtin "math.comb"))
/-- how the exception classes stand to each other -/
structure EX (K : PySem.W.Frag) (Cm Cn Ce : Addr) : Prop where
  aE : PySem.W.nsIn K mainGlobals "NeverAloneError" = some (some (.ref Ce))
  noM : PySem.W.findIn K (.ref Cm) "fault" = some none
  noA : PySem.W.findIn K (.ref Cn) "at" = some none
  noF : PySem.W.findIn K (.ref Cn) "face" = some none
  nn : PySem.W.exmOne K (.ref Cn) (.ref Cn) = some true
  mn : PySem.W.exmOne K (.ref Cm) (.ref Cn) = some false
  mm : PySem.W.exmOne K (.ref Cm) (.ref Cm) = some true
  kN1 : PySem.W.kitOne K (.ref Cn) (.ref Ce) = some true
  kN2 : PySem.W.kitOne K (.ref Cn) (.ref Cm) = some false
  kM1 : PySem.W.kitOne K (.ref Cm) (.ref Ce) = some true
  kM2 : PySem.W.kitOne K (.ref Cm) (.ref Cn) = some false
end
/-! ### levels -/
section
variable {P : Program} {w : World} {K : PySem.W.Frag} {mg : Str → Option Value} {base : Heap} {CX : CXT} {j k : Nat} {C : Addr} {x : Str} {ps : List Str} {sp : Sp} {d : V}
theorem Def.mono (D : Def P w K mg base CX j x ps sp) (h : j ≤ k := by decide) : Def P w K mg base CX k x ps sp := by
  obtain ⟨f, fd, F, g, kp, b⟩ := D.ex
  exact ⟨f, fd, F.mono h, g, kp, b⟩
theorem DefD.mono (D : DefD P w K mg base CX j x ps sp d) (h : j ≤ k := by decide) : DefD P w K mg base CX k x ps sp d := by
  obtain ⟨f, fd, u, F, g, kp, b, r⟩ := D.ex
  exact ⟨f, fd, u, F.mono h, g, kp, b, r⟩
theorem MDef.mono (D : MDef P w K mg base CX j C x ps sp) (h : j ≤ k := by decide) : MDef P w K mg base CX k C x ps sp := by
  obtain ⟨f, fd, F, g, b⟩ := D.ex
  exact ⟨D.cl, f, fd, F.mono h, g, b⟩
theorem PDef.mono (D : PDef P w K mg base CX j C x ps sp) (h : j ≤ k := by decide) : PDef P w K mg base CX k C x ps sp := by
  obtain ⟨p, f, fd, F, g, b⟩ := D.ex
  exact ⟨D.cl, p, f, fd, F.mono h, g, b⟩
theorem KDef.mono (D : KDef P w K mg base CX j C x ps sp) (h : j ≤ k := by decide) : KDef P w K mg base CX k C x ps sp := by
  obtain ⟨f, fd, F, g, b⟩ := D.ex
  exact ⟨D.gC, f, fd, F.mono h, g, b⟩
theorem CDef.mono (D : CDef P w K mg base CX j C x sp) (h : j ≤ k := by decide) : CDef P w K mg base CX k C x sp := by
  obtain ⟨mc, p, g, r, c, F⟩ := D.ex
  exact ⟨mc, p, g, r, c, F.mono h⟩
theorem ODef.mono (D : ODef P w K mg base CX j C x ps sp) (h : j ≤ k := by decide) : ODef P w K mg base CX k C x ps sp := by
  obtain ⟨f, fd, F, g, i, b⟩ := D.ex
  exact ⟨D.sf, f, fd, F.mono h, g, i, b⟩
end
def spLaw (K : PySem.W.Frag) : Sp := fun vs H Q _ => ∃ (a : Addr) (ns : List Int), vs = [.ref a] ∧ SqL K H a (ns.map V.int) ∧ ns.length ≤ 63 ∧ ∀ H', Q (.bl true) H'

theorem all_mk {l : PySem.W.OpenLaw} {w : World} {K : PySem.W.Frag} {h : Heap} {mg : Str → Option Value} {fa C Cm Cn Ce : Addr} (X : K.In h) (G : h.Ns mainGlobals mg) (hfa : mg "law" = some (.ref fa)) (N : NF K)
    (aC : PySem.W.nsIn K mainGlobals "Book" = some (some (.ref C))) (bF : BF K C) (XM : XF l.prog K "Mismatch" "Mismatch.__init__" NE.sMis Cm) (XN : XF l.prog K "NotEven" "NotEven.__init__" NE.sNev Cn) (eX : EX K Cm Cn Ce) (pF : PF K C) (eF : EF K C)
    (G_faces : GF K "faces" sFaces)
    (G_merged : GF K "merged" sMerged)
    (G_subsets : GF K "subsets" sSubsets)
    (G_room_fault : GF K "room_fault" sRoomFault)
    (G_face_counts : GF K "face_counts" sFaceCounts)
    (G_filling : GF K "filling" sFilling)
    (G_filled : GF K "filled" sFilled)
    (G_rooms_without : GF K "rooms_without" sRoomsWithout)
    (G_even_book_count : GF K "even_book_count" sEvenBookCount)
    (G_boundary_book : GF K "boundary_book" sBoundaryBook)
    (G_check_alike : GF K "check_alike" sCheckAlike)
    (G_room_weights : GF K "room_weights" sRoomWeights)
    (G_vector : GF K "vector" sVector)
    (G_without_pivots : GF K "without_pivots" sWithoutPivots)
    (G_full_basis : GF K "full_basis" sFullBasis)
    (G_bits : GF K "bits" sBits)
    (G_combination : GF K "combination" sCombination)
    (G_rank_of : GF K "rank_of" sRankOf)
    (G__law_cell : GF K "_law_cell" sLawCell)
    (G__law_same : GF K "_law_same" sLawSame)
    (G__law_rooms : GF K "_law_rooms" sLawRooms)
    (G__law_even_rooms : GF K "_law_even_rooms" sLawEvenRooms)
    (G__law_sum : GF K "_law_sum" sLawSum)
    (G__law_odd_faces : GF K "_law_odd_faces" sLawOddFaces)
    (G__law_is : GF K "_law_is" sLawIs)
    (G__law_without : GF K "_law_without" sLawWithout)
    (G__law_number : GF K "_law_number" sLawNumber)
    (G__law_refused : GF K "_law_refused" sLawRefused)
    (G__law_back : GF K "_law_back" sLawBack)
    (G__law_is_test : GF K "_law_is_test" sLawIsTest)
    (G__law_spans : GF K "_law_spans" sLawSpans)
    (G__law_refusals : GF K "_law_refusals" sLawRefusals)
    (G_law : GF K "law" sLaw)
    (G_book_number : GD K "book_number" sBookNumber)
    (G_numbered_book : GD K "numbered_book" sNumberedBook)
    (M___init__ : MF K C "__init__" "Book.__init__" sBookInit)
    (M___xor__ : MF K C "__xor__" "Book.__xor__" sBookXor)
    (M_odd_faces : MF K C "odd_faces" "Book.odd_faces" sBookOddFaces)
    (M_boundary : MF K C "boundary" "Book.boundary" sBookBoundary) :
    ∃ fd : FuncData, (∀ (s : Shared) (v : Value), BindsTo s fd ⟨[v], []⟩ [("_law_script", v)]) ∧ ∀ base : Heap, K.In base → base.Ns mainGlobals mg → FnOk l.prog w K mg base CX0 15 fa fd ["_law_script"] (spLaw K) := by
  have gC := PySem.W.mg_of X G aC
  have B : Bl mg := ⟨PySem.W.mg_none_of X G N.n_len, PySem.W.mg_none_of X G N.n_range, PySem.W.mg_none_of X G N.n_tuple, PySem.W.mg_none_of X G N.n_sorted, PySem.W.mg_none_of X G N.n_list, PySem.W.mg_none_of X G N.n_set, PySem.W.mg_none_of X G N.n_enumerate, PySem.W.mg_none_of X G N.n_isinstance, PySem.W.mg_none_of X G N.n_bool, PySem.W.mg_none_of X G N.n_str, PySem.W.mg_none_of X G N.n_abs, PySem.W.mg_none_of X G N.n_int, PySem.W.mg_none_of X G N.n_max, PySem.W.mg_none_of X G N.n_sum, PySem.W.mg_of X G N.n_comb⟩
  have sup := PySem.W.mg_none_of X G N.n_super
  have bf := bF.bk
  obtain ⟨fM, TM⟩ := XM.tx (PySem.W.mg_of X G XM.a) sup
  obtain ⟨fN, TN⟩ := XN.tx (PySem.W.mg_of X G XN.a) sup
  have ex : Ex l.prog K mg Cm Cn Ce fM fN := ⟨TM, eX.noM, TN, eX.noA, eX.noF, PySem.W.mg_of X G eX.aE, XN.xf, XM.xf, XN.ec, XM.ec, eX.nn, eX.mn, eX.mm, eX.kN1, eX.kN2, eX.kM1, eX.kM2⟩
  obtain ⟨f_faces, fd_faces, F_faces, a_faces⟩ := G_faces
  have g_faces := PySem.W.mg_of X G a_faces
  have b_faces : Binds K fd_faces ["room"] [] := F_faces.binds fun _ _ _ _ _ _ us hl => match us, hl with | [_], _ => rfl
  obtain ⟨f_merged, fd_merged, F_merged, a_merged⟩ := G_merged
  have g_merged := PySem.W.mg_of X G a_merged
  have b_merged : Binds K fd_merged ["first", "second"] [] := F_merged.binds fun _ _ _ _ _ _ us hl => match us, hl with | [_, _], _ => rfl
  obtain ⟨f_subsets, fd_subsets, F_subsets, a_subsets⟩ := G_subsets
  have g_subsets := PySem.W.mg_of X G a_subsets
  have b_subsets : Binds K fd_subsets ["items", "size"] [] := F_subsets.binds fun _ _ _ _ _ _ us hl => match us, hl with | [_, _], _ => rfl
  obtain ⟨f_room_fault, fd_room_fault, F_room_fault, a_room_fault⟩ := G_room_fault
  have g_room_fault := PySem.W.mg_of X G a_room_fault
  have b_room_fault : Binds K fd_room_fault ["places", "size", "room"] [] := F_room_fault.binds fun _ _ _ _ _ _ us hl => match us, hl with | [_, _, _], _ => rfl
  obtain ⟨f_face_counts, fd_face_counts, F_face_counts, a_face_counts⟩ := G_face_counts
  have g_face_counts := PySem.W.mg_of X G a_face_counts
  have b_face_counts : Binds K fd_face_counts ["rooms"] [] := F_face_counts.binds fun _ _ _ _ _ _ us hl => match us, hl with | [_], _ => rfl
  obtain ⟨f_filling, fd_filling, F_filling, a_filling⟩ := G_filling
  have g_filling := PySem.W.mg_of X G a_filling
  have b_filling : Binds K fd_filling ["book", "apex"] [] := F_filling.binds fun _ _ _ _ _ _ us hl => match us, hl with | [_, _], _ => rfl
  obtain ⟨f_filled, fd_filled, F_filled, a_filled⟩ := G_filled
  have g_filled := PySem.W.mg_of X G a_filled
  have b_filled : Binds K fd_filled ["places", "size", "apex", "rooms"] [] := F_filled.binds fun _ _ _ _ _ _ us hl => match us, hl with | [_, _, _, _], _ => rfl
  obtain ⟨f_rooms_without, fd_rooms_without, F_rooms_without, a_rooms_without⟩ := G_rooms_without
  have g_rooms_without := PySem.W.mg_of X G a_rooms_without
  have b_rooms_without : Binds K fd_rooms_without ["places", "size", "apex"] [] := F_rooms_without.binds fun _ _ _ _ _ _ us hl => match us, hl with | [_, _, _], _ => rfl
  obtain ⟨f_even_book_count, fd_even_book_count, F_even_book_count, a_even_book_count⟩ := G_even_book_count
  have g_even_book_count := PySem.W.mg_of X G a_even_book_count
  have b_even_book_count : Binds K fd_even_book_count ["places", "size"] [] := F_even_book_count.binds fun _ _ _ _ _ _ us hl => match us, hl with | [_, _], _ => rfl
  obtain ⟨f_boundary_book, fd_boundary_book, F_boundary_book, a_boundary_book⟩ := G_boundary_book
  have g_boundary_book := PySem.W.mg_of X G a_boundary_book
  have b_boundary_book : Binds K fd_boundary_book ["places", "corners"] [] := F_boundary_book.binds fun _ _ _ _ _ _ us hl => match us, hl with | [_, _], _ => rfl
  obtain ⟨f_check_alike, fd_check_alike, F_check_alike, a_check_alike⟩ := G_check_alike
  have g_check_alike := PySem.W.mg_of X G a_check_alike
  have b_check_alike : Binds K fd_check_alike ["first", "books"] [] := F_check_alike.binds fun _ _ _ _ _ _ us hl => match us, hl with | [_, _], _ => rfl
  obtain ⟨f_room_weights, fd_room_weights, F_room_weights, a_room_weights⟩ := G_room_weights
  have g_room_weights := PySem.W.mg_of X G a_room_weights
  have b_room_weights : Binds K fd_room_weights ["books"] [] := F_room_weights.binds fun _ _ _ _ _ _ us hl => match us, hl with | [_], _ => rfl
  obtain ⟨f_vector, fd_vector, F_vector, a_vector⟩ := G_vector
  have g_vector := PySem.W.mg_of X G a_vector
  have b_vector : Binds K fd_vector ["book", "weights"] [] := F_vector.binds fun _ _ _ _ _ _ us hl => match us, hl with | [_, _], _ => rfl
  obtain ⟨f_without_pivots, fd_without_pivots, F_without_pivots, a_without_pivots⟩ := G_without_pivots
  have g_without_pivots := PySem.W.mg_of X G a_without_pivots
  have b_without_pivots : Binds K fd_without_pivots ["basis", "mask"] [] := F_without_pivots.binds fun _ _ _ _ _ _ us hl => match us, hl with | [_, _], _ => rfl
  obtain ⟨f_full_basis, fd_full_basis, F_full_basis, a_full_basis⟩ := G_full_basis
  have g_full_basis := PySem.W.mg_of X G a_full_basis
  have b_full_basis : Binds K fd_full_basis ["masks"] [] := F_full_basis.binds fun _ _ _ _ _ _ us hl => match us, hl with | [_], _ => rfl
  obtain ⟨f_bits, fd_bits, F_bits, a_bits⟩ := G_bits
  have g_bits := PySem.W.mg_of X G a_bits
  have b_bits : Binds K fd_bits ["mask"] [] := F_bits.binds fun _ _ _ _ _ _ us hl => match us, hl with | [_], _ => rfl
  obtain ⟨f_combination, fd_combination, F_combination, a_combination⟩ := G_combination
  have g_combination := PySem.W.mg_of X G a_combination
  have b_combination : Binds K fd_combination ["target", "books"] [] := F_combination.binds fun _ _ _ _ _ _ us hl => match us, hl with | [_, _], _ => rfl
  obtain ⟨f_rank_of, fd_rank_of, F_rank_of, a_rank_of⟩ := G_rank_of
  have g_rank_of := PySem.W.mg_of X G a_rank_of
  have b_rank_of : Binds K fd_rank_of ["books"] [] := F_rank_of.binds fun _ _ _ _ _ _ us hl => match us, hl with | [_], _ => rfl
  obtain ⟨f__law_cell, fd__law_cell, F__law_cell, a__law_cell⟩ := G__law_cell
  have g__law_cell := PySem.W.mg_of X G a__law_cell
  have b__law_cell : Binds K fd__law_cell ["_law_script", "_law_k"] [] := F__law_cell.binds fun _ _ _ _ _ _ us hl => match us, hl with | [_, _], _ => rfl
  obtain ⟨f__law_same, fd__law_same, F__law_same, a__law_same⟩ := G__law_same
  have g__law_same := PySem.W.mg_of X G a__law_same
  have b__law_same : Binds K fd__law_same ["_law_actual", "_law_due"] [] := F__law_same.binds fun _ _ _ _ _ _ us hl => match us, hl with | [_, _], _ => rfl
  obtain ⟨f__law_rooms, fd__law_rooms, F__law_rooms, a__law_rooms⟩ := G__law_rooms
  have g__law_rooms := PySem.W.mg_of X G a__law_rooms
  have b__law_rooms : Binds K fd__law_rooms ["_law_items", "_law_size"] [] := F__law_rooms.binds fun _ _ _ _ _ _ us hl => match us, hl with | [_, _], _ => rfl
  obtain ⟨f__law_even_rooms, fd__law_even_rooms, F__law_even_rooms, a__law_even_rooms⟩ := G__law_even_rooms
  have g__law_even_rooms := PySem.W.mg_of X G a__law_even_rooms
  have b__law_even_rooms : Binds K fd__law_even_rooms ["_law_n", "_law_size", "_law_cell_here"] [] := F__law_even_rooms.binds fun _ _ _ _ _ _ us hl => match us, hl with | [_, _, _], _ => rfl
  obtain ⟨f__law_sum, fd__law_sum, F__law_sum, a__law_sum⟩ := G__law_sum
  have g__law_sum := PySem.W.mg_of X G a__law_sum
  have b__law_sum : Binds K fd__law_sum ["_law_rows"] [] := F__law_sum.binds fun _ _ _ _ _ _ us hl => match us, hl with | [_], _ => rfl
  obtain ⟨f__law_odd_faces, fd__law_odd_faces, F__law_odd_faces, a__law_odd_faces⟩ := G__law_odd_faces
  have g__law_odd_faces := PySem.W.mg_of X G a__law_odd_faces
  have b__law_odd_faces : Binds K fd__law_odd_faces ["_law_rooms_here"] [] := F__law_odd_faces.binds fun _ _ _ _ _ _ us hl => match us, hl with | [_], _ => rfl
  obtain ⟨f__law_is, fd__law_is, F__law_is, a__law_is⟩ := G__law_is
  have g__law_is := PySem.W.mg_of X G a__law_is
  have b__law_is : Binds K fd__law_is ["_law_book", "_law_n", "_law_size", "_law_rooms_here"] [] := F__law_is.binds fun _ _ _ _ _ _ us hl => match us, hl with | [_, _, _, _], _ => rfl
  obtain ⟨f__law_without, fd__law_without, F__law_without, a__law_without⟩ := G__law_without
  have g__law_without := PySem.W.mg_of X G a__law_without
  have b__law_without : Binds K fd__law_without ["_law_n", "_law_size", "_law_outside"] [] := F__law_without.binds fun _ _ _ _ _ _ us hl => match us, hl with | [_, _, _], _ => rfl
  obtain ⟨f__law_number, fd__law_number, F__law_number, a__law_number⟩ := G__law_number
  have g__law_number := PySem.W.mg_of X G a__law_number
  have b__law_number : Binds K fd__law_number ["_law_n", "_law_size", "_law_rooms_here", "_law_outside"] [] := F__law_number.binds fun _ _ _ _ _ _ us hl => match us, hl with | [_, _, _, _], _ => rfl
  obtain ⟨f__law_refused, fd__law_refused, F__law_refused, a__law_refused⟩ := G__law_refused
  have g__law_refused := PySem.W.mg_of X G a__law_refused
  have b__law_refused : Binds K fd__law_refused ["_law_door", "_law_n", "_law_size", "_law_rooms_here", "_law_number_here", "_law_outside"] [] := F__law_refused.binds fun _ _ _ _ _ _ us hl => match us, hl with | [_, _, _, _, _, _], _ => rfl
  obtain ⟨f__law_back, fd__law_back, F__law_back, a__law_back⟩ := G__law_back
  have g__law_back := PySem.W.mg_of X G a__law_back
  have b__law_back : Binds K fd__law_back ["_law_n", "_law_size", "_law_rooms_here", "_law_outside"] [] := F__law_back.binds fun _ _ _ _ _ _ us hl => match us, hl with | [_, _, _, _], _ => rfl
  obtain ⟨f__law_is_test, fd__law_is_test, F__law_is_test, a__law_is_test⟩ := G__law_is_test
  have g__law_is_test := PySem.W.mg_of X G a__law_is_test
  have b__law_is_test : Binds K fd__law_is_test ["_law_told", "_law_n", "_law_size", "_law_target", "_law_rows"] [] := F__law_is_test.binds fun _ _ _ _ _ _ us hl => match us, hl with | [_, _, _, _, _], _ => rfl
  obtain ⟨f__law_spans, fd__law_spans, F__law_spans, a__law_spans⟩ := G__law_spans
  have g__law_spans := PySem.W.mg_of X G a__law_spans
  have b__law_spans : Binds K fd__law_spans ["_law_n", "_law_size", "_law_rooms_here", "_law_strange", "_law_outside"] [] := F__law_spans.binds fun _ _ _ _ _ _ us hl => match us, hl with | [_, _, _, _, _], _ => rfl
  obtain ⟨f__law_refusals, fd__law_refusals, F__law_refusals, a__law_refusals⟩ := G__law_refusals
  have g__law_refusals := PySem.W.mg_of X G a__law_refusals
  have b__law_refusals : Binds K fd__law_refusals ["_law_n", "_law_size", "_law_strange", "_law_outside"] [] := F__law_refusals.binds fun _ _ _ _ _ _ us hl => match us, hl with | [_, _, _, _], _ => rfl
  obtain ⟨f_law, fd_law, F_law, a_law⟩ := G_law
  have g_law := PySem.W.mg_of X G a_law
  have b_law : Binds K fd_law ["_law_script"] [] := F_law.binds fun _ _ _ _ _ _ us hl => match us, hl with | [_], _ => rfl
  obtain ⟨f_book_number, fd_book_number, F_book_number, a_book_number⟩ := G_book_number
  have g_book_number := PySem.W.mg_of X G a_book_number
  have b_book_number : Binds K fd_book_number ["book", "apex"] [] := by
    obtain ⟨ds, r, b⟩ := F_book_number.binds1 (ps := ["book", "apex"]) 2 1 (by simp) rfl fun _ _ _ _ _ _ _ us its h1 h2 => match us, its, h1, h2 with | [a0, a1], [z], _, _ => ⟨_, rfl, rfl⟩
    cases r; exact b
  have b0_book_number : ∃ u, Binds K fd_book_number ["book", "apex"] [u] ∧ RelV (.int 0) u := by
    obtain ⟨ds, r, b⟩ := F_book_number.binds1 (ps := ["book", "apex"]) 1 0 (by simp) rfl fun _ _ _ _ _ _ _ us its h1 h2 => match us, its, h1, h2 with | [a0], [z], _, _ => ⟨_, rfl, rfl⟩
    cases r with
    | cons r t => cases t; exact ⟨_, b, r⟩
  obtain ⟨f_numbered_book, fd_numbered_book, F_numbered_book, a_numbered_book⟩ := G_numbered_book
  have g_numbered_book := PySem.W.mg_of X G a_numbered_book
  have b_numbered_book : Binds K fd_numbered_book ["places", "size", "number", "apex"] [] := by
    obtain ⟨ds, r, b⟩ := F_numbered_book.binds1 (ps := ["places", "size", "number", "apex"]) 4 1 (by simp) rfl fun _ _ _ _ _ _ _ us its h1 h2 => match us, its, h1, h2 with | [a0, a1, a2, a3], [z], _, _ => ⟨_, rfl, rfl⟩
    cases r; exact b
  have b0_numbered_book : ∃ u, Binds K fd_numbered_book ["places", "size", "number", "apex"] [u] ∧ RelV (.int 0) u := by
    obtain ⟨ds, r, b⟩ := F_numbered_book.binds1 (ps := ["places", "size", "number", "apex"]) 3 0 (by simp) rfl fun _ _ _ _ _ _ _ us its h1 h2 => match us, its, h1, h2 with | [a0, a1, a2], [z], _, _ => ⟨_, rfl, rfl⟩
    cases r with
    | cons r t => cases t; exact ⟨_, b, r⟩
  obtain ⟨f___init__, fd___init__, F___init__, a___init__, i___init__⟩ := M___init__
  have b___init__ : Binds K fd___init__ ["self", "places", "size", "rooms"] [] := F___init__.binds fun _ _ _ _ _ _ us hl => match us, hl with | [_, _, _, _], _ => rfl
  obtain ⟨f___xor__, fd___xor__, F___xor__, a___xor__, i___xor__⟩ := M___xor__
  have b___xor__ : Binds K fd___xor__ ["self", "other"] [] := F___xor__.binds fun _ _ _ _ _ _ us hl => match us, hl with | [_, _], _ => rfl
  obtain ⟨f_odd_faces, fd_odd_faces, F_odd_faces, a_odd_faces, i_odd_faces⟩ := M_odd_faces
  have b_odd_faces : Binds K fd_odd_faces ["self"] [] := F_odd_faces.binds fun _ _ _ _ _ _ us hl => match us, hl with | [_], _ => rfl
  obtain ⟨f_boundary, fd_boundary, F_boundary, a_boundary, i_boundary⟩ := M_boundary
  have b_boundary : Binds K fd_boundary ["self"] [] := F_boundary.binds fun _ _ _ _ _ _ us hl => match us, hl with | [_], _ => rfl
  obtain ⟨p_even, f_even, fd_even, F_even, P_even⟩ := pF
  have b_even : Binds K fd_even ["self"] [] := F_even.binds fun _ _ _ _ _ _ us hl => match us, hl with | [_], _ => rfl
  obtain ⟨p_empty, f_empty, fd_empty, F_empty, R_empty, C_empty⟩ := eF
  have b_empty : Binds K fd_empty ["cls", "places", "size"] [] := F_empty.binds fun _ _ _ _ _ _ us hl => match us, hl with | [_, _, _], _ => rfl
  obtain ⟨t12, mp⟩ := bF.mp
  have e := hfa.symm.trans g_law
  cases e
  refine ⟨fd_law, fun s v => ?_, fun base _ _ => ?_⟩
  · obtain ⟨oc, od, kV, doc, pm, an, cdv, ct, osl, rfl, _, _⟩ := F_law.ex
    exact .of_eq rfl
  have D_faces : Def l.prog w K mg base CX0 1 "faces" ["room"] (spR K C rFaces) := ⟨f_faces, fd_faces, ok_faces (k := 0) F_faces B, g_faces, F_faces.kp, b_faces⟩
  have D_merged : Def l.prog w K mg base CX0 1 "merged" ["first", "second"] (spR K C rMerged) := ⟨f_merged, fd_merged, ok_merged (k := 0) F_merged B, g_merged, F_merged.kp, b_merged⟩
  have D_room_fault : Def l.prog w K mg base CX0 1 "room_fault" ["places", "size", "room"] (spR K C rFault) := ⟨f_room_fault, fd_room_fault, ok_room_fault (k := 0) F_room_fault B, g_room_fault, F_room_fault.kp, b_room_fault⟩
  have D_subsets : Def l.prog w K mg base CX0 7 "subsets" ["items", "size"] (spR K C (rSubs 6)) := ⟨f_subsets, fd_subsets, ok_subsets F_subsets B g_subsets F_subsets.kp b_subsets 6, g_subsets, F_subsets.kp, b_subsets⟩
  have D__law_rooms : Def l.prog w K mg base CX0 7 "_law_rooms" ["_law_items", "_law_size"] (spR K C (rSubs 6)) := ⟨f__law_rooms, fd__law_rooms, ok_law_rooms F__law_rooms B g__law_rooms F__law_rooms.kp b__law_rooms 6, g__law_rooms, F__law_rooms.kp, b__law_rooms⟩
  have KB : KDef l.prog w K mg base CX0 2 C "Book" ["self", "places", "size", "rooms"] (spI K C rInit) := ⟨gC, f___init__, fd___init__, ok_init (k := 1) F___init__ B gC bf.cl bf.naP bf.naS bf.naR R_empty ⟨mp, ⟨t12, rfl⟩⟩ D_room_fault.mono, ⟨bF.mks, a___init__, i___init__, bF.kc⟩, b___init__⟩
  have D_face_counts : Def l.prog w K mg base CX0 2 "face_counts" ["rooms"] (spM K C rFC) := ⟨f_face_counts, fd_face_counts, ok_face_counts (k := 1) F_face_counts B D_faces.mono, g_face_counts, F_face_counts.kp, b_face_counts⟩
  have M_odd_faces : MDef l.prog w K mg base CX0 3 C "odd_faces" ["self"] (spR K C rOdd) := ⟨bf.cl, f_odd_faces, fd_odd_faces, ok_odd_faces (k := 2) F_odd_faces B bf D_face_counts.mono, ⟨a_odd_faces, i_odd_faces, F_odd_faces.kp⟩, b_odd_faces⟩
  have PE_is_even : PDef l.prog w K mg base CX0 4 C "is_even" ["self"] (spR K C rEven) := ⟨bf.cl, p_even, f_even, fd_even, ok_is_even (k := 3) F_even B M_odd_faces.mono, P_even, b_even⟩
  have M_boundary : MDef l.prog w K mg base CX0 5 C "boundary" ["self"] (spR K C rBound) := ⟨bf.cl, f_boundary, fd_boundary, ok_boundary (k := 3) F_boundary B bf gC KB.mono M_odd_faces.mono, ⟨a_boundary, i_boundary, F_boundary.kp⟩, b_boundary⟩
  have OB : ODef l.prog w K mg base CX0 4 C "__xor__" ["self", "other"] (spR K C rXor) := ⟨bF.sf, f___xor__, fd___xor__, ok_xor (k := 2) F___xor__ B bf gC KB, a___xor__, i___xor__, b___xor__⟩
  have CD_empty : CDef l.prog w K mg base CX0 4 C "empty" (spR K C (rEmpty C)) := ⟨_, p_empty, f_empty, R_empty, C_empty, ((ok_empty (k := 2) F_empty KB).raw b_empty .nil).imp fun vs H Q E q => by rw [List.append_nil]; exact q⟩
  have D_rooms_without : Def l.prog w K mg base CX0 8 "rooms_without" ["places", "size", "apex"] (spR K C rWithout) := ⟨f_rooms_without, fd_rooms_without, ok_rooms_without (k := 7) F_rooms_without B D_subsets.mono, g_rooms_without, F_rooms_without.kp, b_rooms_without⟩
  have D_even_book_count : Def l.prog w K mg base CX0 4 "even_book_count" ["places", "size"] (spR K C rCount) := ⟨f_even_book_count, fd_even_book_count, ok_even_book_count (k := 2) F_even_book_count B bf gC KB.mono, g_even_book_count, F_even_book_count.kp, b_even_book_count⟩
  have D_boundary_book : Def l.prog w K mg base CX0 7 "boundary_book" ["places", "corners"] (spR K C rBB) := ⟨f_boundary_book, fd_boundary_book, ok_boundary_book (k := 5) F_boundary_book B gC KB.mono M_boundary.mono, g_boundary_book, F_boundary_book.kp, b_boundary_book⟩
  have D_check_alike : Def l.prog w K mg base CX0 1 "check_alike" ["first", "books"] (spR K C rAlike) := ⟨f_check_alike, fd_check_alike, ok_check_alike (k := 0) F_check_alike bf, g_check_alike, F_check_alike.kp, b_check_alike⟩
  have D_room_weights : Def l.prog w K mg base CX0 1 "room_weights" ["books"] (spM K C rRW) := ⟨f_room_weights, fd_room_weights, ok_room_weights (k := 0) F_room_weights bf, g_room_weights, F_room_weights.kp, b_room_weights⟩
  have D_vector : Def l.prog w K mg base CX0 1 "vector" ["book", "weights"] (spR K C rVec) := ⟨f_vector, fd_vector, ok_vector (k := 0) F_vector B bf, g_vector, F_vector.kp, b_vector⟩
  have D_without_pivots : Def l.prog w K mg base CX0 1 "without_pivots" ["basis", "mask"] (spR K C rWP) := ⟨f_without_pivots, fd_without_pivots, ok_without_pivots (k := 0) F_without_pivots, g_without_pivots, F_without_pivots.kp, b_without_pivots⟩
  have D_full_basis : Def l.prog w K mg base CX0 2 "full_basis" ["masks"] (spR K C rFB) := ⟨f_full_basis, fd_full_basis, ok_full_basis (k := 1) F_full_basis B D_without_pivots.mono, g_full_basis, F_full_basis.kp, b_full_basis⟩
  have D_bits : Def l.prog w K mg base CX0 1 "bits" ["mask"] (spR K C rBits) := ⟨f_bits, fd_bits, ok_bits (k := 0) F_bits, g_bits, F_bits.kp, b_bits⟩
  have D_combination : Def l.prog w K mg base CX0 3 "combination" ["target", "books"] (spR K C rComb) := ⟨f_combination, fd_combination, ok_combination (k := 2) F_combination B D_check_alike.mono D_room_weights.mono D_vector.mono D_full_basis.mono D_without_pivots.mono D_bits.mono, g_combination, F_combination.kp, b_combination⟩
  have D_rank_of : Def l.prog w K mg base CX0 3 "rank_of" ["books"] (spR K C rRank) := ⟨f_rank_of, fd_rank_of, ok_rank_of (k := 2) F_rank_of B D_check_alike.mono D_room_weights.mono D_vector.mono D_full_basis.mono, g_rank_of, F_rank_of.kp, b_rank_of⟩
  have D_filling : Def l.prog w K mg base (L2.CX l.prog w) 4 "filling" ["book", "apex"] (spX K C Cm Cn rFill rFillX) := ⟨f_filling, fd_filling, ok_filling (k := 3) F_filling B bf TM eX.noM TN eX.noA eX.noF M_odd_faces.mono, g_filling, F_filling.kp, b_filling⟩
  have D_filled : Def l.prog w K mg base (L2.CX l.prog w) 4 "filled" ["places", "size", "apex", "rooms"] (spX K C Cm Cn rFilled rFilledX) := ⟨f_filled, fd_filled, ok_filled (k := 2) F_filled B bf gC TM eX.noM KB.mono D_faces.mono D_merged.mono, g_filled, F_filled.kp, b_filled⟩
  have D_book_number : Def l.prog w K mg base (L2.CX l.prog w) 9 "book_number" ["book", "apex"] (spX K C Cm Cn rNum rFillX) := ⟨f_book_number, fd_book_number, ok_book_number (k := 8) F_book_number bf D_filling.mono D_rooms_without.mono, g_book_number, F_book_number.kp, b_book_number⟩
  have D_book_number0 : DefD l.prog w K mg base (L2.CX l.prog w) 9 "book_number" ["book", "apex"] (spX K C Cm Cn rNum rFillX) (.int 0) := by
    obtain ⟨u, b, r⟩ := b0_book_number
    exact ⟨f_book_number, fd_book_number, u, ok_book_number (k := 8) F_book_number bf D_filling.mono D_rooms_without.mono, g_book_number, F_book_number.kp, b, r⟩
  have D_numbered_book : Def l.prog w K mg base (L2.CX l.prog w) 9 "numbered_book" ["places", "size", "number", "apex"] (spX K C Cm Cn rNB rNBX) := ⟨f_numbered_book, fd_numbered_book, ok_numbered_book (k := 8) F_numbered_book TM eX.noM D_even_book_count.mono D_rooms_without.mono D_filled.mono, g_numbered_book, F_numbered_book.kp, b_numbered_book⟩
  have D_numbered_book0 : DefD l.prog w K mg base (L2.CX l.prog w) 9 "numbered_book" ["places", "size", "number", "apex"] (spX K C Cm Cn rNB rNBX) (.int 0) := by
    obtain ⟨u, b, r⟩ := b0_numbered_book
    exact ⟨f_numbered_book, fd_numbered_book, u, ok_numbered_book (k := 8) F_numbered_book TM eX.noM D_even_book_count.mono D_rooms_without.mono D_filled.mono, g_numbered_book, F_numbered_book.kp, b, r⟩
  have D__law_cell : Def l.prog w K mg base CX0 1 "_law_cell" ["_law_script", "_law_k"] (spR K C rCell) := ⟨f__law_cell, fd__law_cell, ok_law_cell (k := 0) F__law_cell B, g__law_cell, F__law_cell.kp, b__law_cell⟩
  have D__law_without : Def l.prog w K mg base CX0 8 "_law_without" ["_law_n", "_law_size", "_law_outside"] (spR K C rWithout) := ⟨f__law_without, fd__law_without, ok_law_without (k := 7) F__law_without B D__law_rooms.mono, g__law_without, F__law_without.kp, b__law_without⟩
  have D__law_number : Def l.prog w K mg base CX0 9 "_law_number" ["_law_n", "_law_size", "_law_rooms_here", "_law_outside"] (spR K C rNumL) := ⟨f__law_number, fd__law_number, ok_law_number (k := 8) F__law_number D__law_without.mono, g__law_number, F__law_number.kp, b__law_number⟩
  have D__law_sum : Def l.prog w K mg base CX0 1 "_law_sum" ["_law_rows"] (spR K C rSum') := ⟨f__law_sum, fd__law_sum, ok_law_sum (k := 0) F__law_sum B, g__law_sum, F__law_sum.kp, b__law_sum⟩
  have D__law_odd_faces : Def l.prog w K mg base CX0 1 "_law_odd_faces" ["_law_rooms_here"] (spR K C rOddF) := ⟨f__law_odd_faces, fd__law_odd_faces, ok_law_odd_faces (k := 0) F__law_odd_faces B, g__law_odd_faces, F__law_odd_faces.kp, b__law_odd_faces⟩
  have D__law_even_rooms : Def l.prog w K mg base CX0 8 "_law_even_rooms" ["_law_n", "_law_size", "_law_cell_here"] (spR K C rEvR) := ⟨f__law_even_rooms, fd__law_even_rooms, ok_law_even_rooms (k := 7) F__law_even_rooms B D__law_rooms.mono, g__law_even_rooms, F__law_even_rooms.kp, b__law_even_rooms⟩
  have D__law_refused : Def l.prog w K mg base CX0 11 "_law_refused" ["_law_door", "_law_n", "_law_size", "_law_rooms_here", "_law_number_here", "_law_outside"] (spR K C rRefused) := ⟨f__law_refused, fd__law_refused, ok_law_refused (k := 9) F__law_refused B ex KB.mono D_filling.mono D_book_number.mono D_filled.mono D_numbered_book.mono, g__law_refused, F__law_refused.kp, b__law_refused⟩
  have D__law_same : Def l.prog w K mg base CX0 6 "_law_same" ["_law_actual", "_law_due"] (spR K C (rSame 5)) := ⟨f__law_same, fd__law_same, ok_law_same F__law_same B g__law_same F__law_same.kp b__law_same 5, g__law_same, F__law_same.kp, b__law_same⟩
  have D__law_is : Def l.prog w K mg base CX0 8 "_law_is" ["_law_book", "_law_n", "_law_size", "_law_rooms_here"] (spR K C rIs) := ⟨f__law_is, fd__law_is, ok_law_is (k := 6) F__law_is B bf gC D__law_same.mono PE_is_even.mono D__law_odd_faces.mono, g__law_is, F__law_is.kp, b__law_is⟩
  have D__law_back : Def l.prog w K mg base CX0 13 "_law_back" ["_law_n", "_law_size", "_law_rooms_here", "_law_outside"] (spR K C rBack) := ⟨f__law_back, fd__law_back, ok_law_back (k := 11) F__law_back B KB.mono D_filling.mono D_book_number.mono D_book_number0.mono D_filled.mono D_numbered_book.mono D_numbered_book0.mono D__law_same.mono D__law_is.mono D__law_number.mono D__law_refused.mono, g__law_back, F__law_back.kp, b__law_back⟩
  have D__law_refusals : Def l.prog w K mg base CX0 12 "_law_refusals" ["_law_n", "_law_size", "_law_strange", "_law_outside"] (spR K C rRefs) := ⟨f__law_refusals, fd__law_refusals, ok_law_refusals (k := 11) F__law_refusals B D__law_odd_faces.mono D__law_same.mono D__law_refused.mono, g__law_refusals, F__law_refusals.kp, b__law_refusals⟩
  have D__law_is_test : Def l.prog w K mg base CX0 8 "_law_is_test" ["_law_told", "_law_n", "_law_size", "_law_target", "_law_rows"] (spR K C rTest) := ⟨f__law_is_test, fd__law_is_test, ok_law_is_test (k := 7) F__law_is_test B D__law_same.mono D__law_rooms.mono, g__law_is_test, F__law_is_test.kp, b__law_is_test⟩
  have D__law_spans : Def l.prog w K mg base CX0 10 "_law_spans" ["_law_n", "_law_size", "_law_rooms_here", "_law_strange", "_law_outside"] (spR K C rSpans) := ⟨f__law_spans, fd__law_spans, ok_law_spans (k := 8) F__law_spans B gC KB.mono CD_empty.mono OB.mono D__law_without.mono D_boundary_book.mono D__law_is.mono D__law_same.mono D_combination.mono D_rank_of.mono D__law_is_test.mono, g__law_spans, F__law_spans.kp, b__law_spans⟩
  have L := ok_law (k := 13) F_law B KB.mono OB.mono D__law_cell.mono D__law_even_rooms.mono D__law_rooms.mono D__law_sum.mono D__law_is.mono D__law_back.mono D__law_number.mono D__law_same.mono D_book_number.mono D__law_spans.mono D__law_without.mono D_even_book_count.mono D__law_refused.mono D__law_refusals.mono
  refine L.imp fun vs H Q E h => ?_
  obtain ⟨a, ns, rfl, hS, hl, q⟩ := h
  exact ⟨H, [.scr ns], .bl true, Same.refl H, .cons (.scr hS hl) .nil, ⟨ns, hl, rfl, rfl⟩, fun v S' H' g i => by rw [i.bl_inv]; exact q H'⟩
theorem walk {l : PySem.W.OpenLaw} {q : Program} {loose : List Str} {XP : (Str → Option Value) → Heap → Prop} {YP : World → Heap → Prop} {d : DefRec} {K : Params → PySem.W.Frag} (hn : l.most = some 63) (hdf : d.params.defaults = [])
    (hY : ∀ (w : World) (h : Heap), YP w h → (K w.params).In h)
    (F : ∀ (w : World) (mg : Str → Option Value) (fa : Addr) (h : Heap), (K w.params).In h → h.Ns mainGlobals mg → mg d.name = some (.ref fa) →
      ∃ fd : FuncData, (∀ (s : Shared) (u : Value), BindsTo s fd ⟨[u], []⟩ [("_law_script", u)]) ∧ ∀ base : Heap, (K w.params).In base → base.Ns mainGlobals mg → FnOk l.prog w (K w.params) mg base CX0 15 fa fd ["_law_script"] (spLaw (K w.params))) :
    PySem.W.WalkO q loose XP YP l.row.toRowW d [] (fun f vs => PySem.call f vs) :=
  L2.walk_of (n := 63) (k := 15) (x := "_law_script") (CX := fun _ => CX0) (sp := fun w => spLaw (K w.params)) hn (by decide) hdf ⟨rfl, by decide, by decide⟩ hY F (fun _ _ a ns hl _ hS => ⟨a, ns, rfl, hS, hl, fun _ => rfl⟩) fun _ _ _ _ _ z => z
end NA

set_option Elab.async false
set_option linter.all false
open PySem PySem.W PyProof.Rows
set_option maxRecDepth 100000 in
set_option maxHeartbeats 0 in
theorem PySem.Challenge.cw_neveralone_k52_whole_every_even_book_by_holds : PySem.Challenge.rw_neveralone_k52_whole_every_even_book_by.Holds := by
  w_on; o_law; k_head; (case hw => w_witness2)
  k_fill
  refine NA.walk (l := PySem.Challenge.rw_neveralone_k52_whole_every_even_book_by) rfl rfl (fun w h Y => PySem.W.kIn_of Y) ?F
  case F =>
    intro w mg fa h KX G hmg
    refine' NA.all_mk KX G hmg ?zN ?zaC ?zbF ?zXM ?zXN ?zeX ?zpF ?zeF ?zG_faces ?zG_merged ?zG_subsets ?zG_room_fault ?zG_face_counts ?zG_filling ?zG_filled ?zG_rooms_without ?zG_even_book_count ?zG_boundary_book ?zG_check_alike ?zG_room_weights ?zG_vector ?zG_without_pivots ?zG_full_basis ?zG_bits ?zG_combination ?zG_rank_of ?zG__law_cell ?zG__law_same ?zG__law_rooms ?zG__law_even_rooms ?zG__law_sum ?zG__law_odd_faces ?zG__law_is ?zG__law_without ?zG__law_number ?zG__law_refused ?zG__law_back ?zG__law_is_test ?zG__law_spans ?zG__law_refusals ?zG_law ?zG_book_number ?zG_numbered_book ?zM___init__ ?zM___xor__ ?zM_odd_faces ?zM_boundary
    case zN =>
      refine' NA.NF.mk ?z1_n0 ?z1_n1 ?z1_n2 ?z1_n3 ?z1_n4 ?z1_n5 ?z1_n6 ?z1_n7 ?z1_n8 ?z1_n9 ?z1_n10 ?z1_n11 ?z1_n12 ?z1_n13 ?z1_n14 ?z1_n15
      (case z1_n0 => k_is); (case z1_n1 => k_is); (case z1_n2 => k_is); (case z1_n3 => k_is); (case z1_n4 => k_is); (case z1_n5 => k_is); (case z1_n6 => k_is); (case z1_n7 => k_is); (case z1_n8 => k_is); (case z1_n9 => k_is); (case z1_n10 => k_is); (case z1_n11 => k_is); (case z1_n12 => k_is); (case z1_n13 => k_is); (case z1_n14 => k_is); (case z1_n15 => k_is)
    case zaC => k_is
    case zbF =>
      refine' NA.bf_mk ?z2_pg ?z2_hd ?z2_po ?z2_sa ?z2_nP ?z2_nS ?z2_nR ?z2_ha ?z2_hn ?z2_tk ?z2_hm ?z2_kit ?z2_mk ?z2_kc ?z2_sf ?z2_mp
      (case z2_pg => k_is); (case z2_hd => k_is); (case z2_po => k_is); (case z2_sa => k_is); (case z2_nP => k_is); (case z2_nS => k_is); (case z2_nR => k_is); (case z2_ha => k_is); (case z2_hn => k_is); (case z2_tk => k_is); (case z2_hm => k_is); (case z2_kit => first | rfl | kernel_rfl); (case z2_mk => k_is); (case z2_kc => k_is); (case z2_sf => k_is); (case z2_mp => k_is)
    case zXM =>
      refine' NA.xf_mk ?z3_a ?z3_xL ?z3_rv ?z3_al ?z3_sa ?z3_ga ?z3_gg ?z3_iC ?z3_tI ?z3_kC ?z3_exC ?z3_veC ?z3_tyC ?z3_hdC ?z3_opq ?z3_top ?z3_l ?z3_c ?z3_lc ?z3_v2 ?z3_fl ?z3_lcc ?z3_ha ?z3_hn ?z3_tk ?z3_hm
      (case z3_a => k_is); (case z3_xL => k_is); (case z3_rv => decide +kernel); (case z3_al => kernel_rfl); (case z3_sa => k_is); (case z3_ga => k_is); (case z3_gg => k_is); (case z3_iC => k_is); (case z3_tI => k_is); (case z3_kC => k_is); (case z3_exC => k_is); (case z3_veC => k_is); (case z3_tyC => k_is); (case z3_hdC => k_is); (case z3_opq => k_is); (case z3_top => decide +kernel); (case z3_l => k_is); (case z3_c => k_is); (case z3_lc => k_is); (case z3_v2 => rfl); (case z3_fl => decide +kernel); (case z3_lcc => k_is); (case z3_ha => k_is); (case z3_hn => k_is); (case z3_tk => k_is); (case z3_hm => k_is)
    case zXN =>
      refine' NA.xf_mk ?z4_a ?z4_xL ?z4_rv ?z4_al ?z4_sa ?z4_ga ?z4_gg ?z4_iC ?z4_tI ?z4_kC ?z4_exC ?z4_veC ?z4_tyC ?z4_hdC ?z4_opq ?z4_top ?z4_l ?z4_c ?z4_lc ?z4_v2 ?z4_fl ?z4_lcc ?z4_ha ?z4_hn ?z4_tk ?z4_hm
      (case z4_a => k_is); (case z4_xL => k_is); (case z4_rv => decide +kernel); (case z4_al => kernel_rfl); (case z4_sa => k_is); (case z4_ga => k_is); (case z4_gg => k_is); (case z4_iC => k_is); (case z4_tI => k_is); (case z4_kC => k_is); (case z4_exC => k_is); (case z4_veC => k_is); (case z4_tyC => k_is); (case z4_hdC => k_is); (case z4_opq => k_is); (case z4_top => decide +kernel); (case z4_l => k_is); (case z4_c => k_is); (case z4_lc => k_is); (case z4_v2 => rfl); (case z4_fl => decide +kernel); (case z4_lcc => k_is); (case z4_ha => k_is); (case z4_hn => k_is); (case z4_tk => k_is); (case z4_hm => k_is)
    case zeX =>
      refine' NA.EX.mk ?z5_aE ?z5_noM ?z5_noA ?z5_noF ?z5_nn ?z5_mn ?z5_mm ?z5_kN1 ?z5_kN2 ?z5_kM1 ?z5_kM2
      (case z5_aE => k_is); (case z5_noM => k_is); (case z5_noA => k_is); (case z5_noF => k_is); (case z5_nn => kernel_rfl); (case z5_mn => kernel_rfl); (case z5_mm => kernel_rfl); (case z5_kN1 => kernel_rfl); (case z5_kN2 => kernel_rfl); (case z5_kM1 => kernel_rfl); (case z5_kM2 => kernel_rfl)
    case zpF =>
      refine' NA.pf_mk ?z6_a ?z6_b ?z6_t ?z6_r ?z6_l ?z6_c ?z6_k
      (case z6_a => k_is); (case z6_b => k_is); (case z6_t => k_is); (case z6_r => k_is); (case z6_l => k_is); (case z6_c => k_is); (case z6_k => k_is)
    case zeF =>
      refine' NA.ef_mk ?z7_rd ?z7_gt ?z7_a ?z7_r ?z7_fi ?z7_l ?z7_c ?z7_k
      (case z7_rd => k_is); (case z7_gt => k_is); (case z7_a => k_is); (case z7_r => k_is); (case z7_fi => k_is); (case z7_l => k_is); (case z7_c => k_is); (case z7_k => k_is)
    case zG_faces =>
      refine' NA.gf_mk ?z8_a ?z8_l ?z8_c ?z8_k
      (case z8_a => k_is); (case z8_l => k_is); (case z8_c => k_is); (case z8_k => k_is)
    case zG_merged =>
      refine' NA.gf_mk ?z9_a ?z9_l ?z9_c ?z9_k
      (case z9_a => k_is); (case z9_l => k_is); (case z9_c => k_is); (case z9_k => k_is)
    case zG_subsets =>
      refine' NA.gf_mk ?z10_a ?z10_l ?z10_c ?z10_k
      (case z10_a => k_is); (case z10_l => k_is); (case z10_c => k_is); (case z10_k => k_is)
    case zG_room_fault =>
      refine' NA.gf_mk ?z11_a ?z11_l ?z11_c ?z11_k
      (case z11_a => k_is); (case z11_l => k_is); (case z11_c => k_is); (case z11_k => k_is)
    case zG_face_counts =>
      refine' NA.gf_mk ?z12_a ?z12_l ?z12_c ?z12_k
      (case z12_a => k_is); (case z12_l => k_is); (case z12_c => k_is); (case z12_k => k_is)
    case zG_filling =>
      refine' NA.gf_mk ?z13_a ?z13_l ?z13_c ?z13_k
      (case z13_a => k_is); (case z13_l => k_is); (case z13_c => k_is); (case z13_k => k_is)
    case zG_filled =>
      refine' NA.gf_mk ?z14_a ?z14_l ?z14_c ?z14_k
      (case z14_a => k_is); (case z14_l => k_is); (case z14_c => k_is); (case z14_k => k_is)
    case zG_rooms_without =>
      refine' NA.gf_mk ?z15_a ?z15_l ?z15_c ?z15_k
      (case z15_a => k_is); (case z15_l => k_is); (case z15_c => k_is); (case z15_k => k_is)
    case zG_even_book_count =>
      refine' NA.gf_mk ?z16_a ?z16_l ?z16_c ?z16_k
      (case z16_a => k_is); (case z16_l => k_is); (case z16_c => k_is); (case z16_k => k_is)
    case zG_boundary_book =>
      refine' NA.gf_mk ?z17_a ?z17_l ?z17_c ?z17_k
      (case z17_a => k_is); (case z17_l => k_is); (case z17_c => k_is); (case z17_k => k_is)
    case zG_check_alike =>
      refine' NA.gf_mk ?z18_a ?z18_l ?z18_c ?z18_k
      (case z18_a => k_is); (case z18_l => k_is); (case z18_c => k_is); (case z18_k => k_is)
    case zG_room_weights =>
      refine' NA.gf_mk ?z19_a ?z19_l ?z19_c ?z19_k
      (case z19_a => k_is); (case z19_l => k_is); (case z19_c => k_is); (case z19_k => k_is)
    case zG_vector =>
      refine' NA.gf_mk ?z20_a ?z20_l ?z20_c ?z20_k
      (case z20_a => k_is); (case z20_l => k_is); (case z20_c => k_is); (case z20_k => k_is)
    case zG_without_pivots =>
      refine' NA.gf_mk ?z21_a ?z21_l ?z21_c ?z21_k
      (case z21_a => k_is); (case z21_l => k_is); (case z21_c => k_is); (case z21_k => k_is)
    case zG_full_basis =>
      refine' NA.gf_mk ?z22_a ?z22_l ?z22_c ?z22_k
      (case z22_a => k_is); (case z22_l => k_is); (case z22_c => k_is); (case z22_k => k_is)
    case zG_bits =>
      refine' NA.gf_mk ?z23_a ?z23_l ?z23_c ?z23_k
      (case z23_a => k_is); (case z23_l => k_is); (case z23_c => k_is); (case z23_k => k_is)
    case zG_combination =>
      refine' NA.gf_mk ?z24_a ?z24_l ?z24_c ?z24_k
      (case z24_a => k_is); (case z24_l => k_is); (case z24_c => k_is); (case z24_k => k_is)
    case zG_rank_of =>
      refine' NA.gf_mk ?z25_a ?z25_l ?z25_c ?z25_k
      (case z25_a => k_is); (case z25_l => k_is); (case z25_c => k_is); (case z25_k => k_is)
    case zG__law_cell =>
      refine' NA.gf_mk ?z26_a ?z26_l ?z26_c ?z26_k
      (case z26_a => k_is); (case z26_l => k_is); (case z26_c => k_is); (case z26_k => k_is)
    case zG__law_same =>
      refine' NA.gf_mk ?z27_a ?z27_l ?z27_c ?z27_k
      (case z27_a => k_is); (case z27_l => k_is); (case z27_c => k_is); (case z27_k => k_is)
    case zG__law_rooms =>
      refine' NA.gf_mk ?z28_a ?z28_l ?z28_c ?z28_k
      (case z28_a => k_is); (case z28_l => k_is); (case z28_c => k_is); (case z28_k => k_is)
    case zG__law_even_rooms =>
      refine' NA.gf_mk ?z29_a ?z29_l ?z29_c ?z29_k
      (case z29_a => k_is); (case z29_l => k_is); (case z29_c => k_is); (case z29_k => k_is)
    case zG__law_sum =>
      refine' NA.gf_mk ?z30_a ?z30_l ?z30_c ?z30_k
      (case z30_a => k_is); (case z30_l => k_is); (case z30_c => k_is); (case z30_k => k_is)
    case zG__law_odd_faces =>
      refine' NA.gf_mk ?z31_a ?z31_l ?z31_c ?z31_k
      (case z31_a => k_is); (case z31_l => k_is); (case z31_c => k_is); (case z31_k => k_is)
    case zG__law_is =>
      refine' NA.gf_mk ?z32_a ?z32_l ?z32_c ?z32_k
      (case z32_a => k_is); (case z32_l => k_is); (case z32_c => k_is); (case z32_k => k_is)
    case zG__law_without =>
      refine' NA.gf_mk ?z33_a ?z33_l ?z33_c ?z33_k
      (case z33_a => k_is); (case z33_l => k_is); (case z33_c => k_is); (case z33_k => k_is)
    case zG__law_number =>
      refine' NA.gf_mk ?z34_a ?z34_l ?z34_c ?z34_k
      (case z34_a => k_is); (case z34_l => k_is); (case z34_c => k_is); (case z34_k => k_is)
    case zG__law_refused =>
      refine' NA.gf_mk ?z35_a ?z35_l ?z35_c ?z35_k
      (case z35_a => k_is); (case z35_l => k_is); (case z35_c => k_is); (case z35_k => k_is)
    case zG__law_back =>
      refine' NA.gf_mk ?z36_a ?z36_l ?z36_c ?z36_k
      (case z36_a => k_is); (case z36_l => k_is); (case z36_c => k_is); (case z36_k => k_is)
    case zG__law_is_test =>
      refine' NA.gf_mk ?z37_a ?z37_l ?z37_c ?z37_k
      (case z37_a => k_is); (case z37_l => k_is); (case z37_c => k_is); (case z37_k => k_is)
    case zG__law_spans =>
      refine' NA.gf_mk ?z38_a ?z38_l ?z38_c ?z38_k
      (case z38_a => k_is); (case z38_l => k_is); (case z38_c => k_is); (case z38_k => k_is)
    case zG__law_refusals =>
      refine' NA.gf_mk ?z39_a ?z39_l ?z39_c ?z39_k
      (case z39_a => k_is); (case z39_l => k_is); (case z39_c => k_is); (case z39_k => k_is)
    case zG_law =>
      refine' NA.gf_mk ?z40_a ?z40_l ?z40_c ?z40_k
      (case z40_a => k_is); (case z40_l => k_is); (case z40_c => k_is); (case z40_k => k_is)
    case zG_book_number =>
      refine' NA.gd_mk ?z41_a ?z41_l ?z41_lT ?z41_c ?z41_k
      (case z41_a => k_is); (case z41_l => k_is); (case z41_lT => k_is); (case z41_c => k_is); (case z41_k => k_is)
    case zG_numbered_book =>
      refine' NA.gd_mk ?z42_a ?z42_l ?z42_lT ?z42_c ?z42_k
      (case z42_a => k_is); (case z42_l => k_is); (case z42_lT => k_is); (case z42_c => k_is); (case z42_k => k_is)
    case zM___init__ =>
      refine' NA.mf_mk ?z43_a ?z43_i ?z43_l ?z43_c ?z43_k
      (case z43_a => k_is); (case z43_i => k_is); (case z43_l => k_is); (case z43_c => k_is); (case z43_k => k_is)
    case zM___xor__ =>
      refine' NA.mf_mk ?z44_a ?z44_i ?z44_l ?z44_c ?z44_k
      (case z44_a => k_is); (case z44_i => k_is); (case z44_l => k_is); (case z44_c => k_is); (case z44_k => k_is)
    case zM_odd_faces =>
      refine' NA.mf_mk ?z45_a ?z45_i ?z45_l ?z45_c ?z45_k
      (case z45_a => k_is); (case z45_i => k_is); (case z45_l => k_is); (case z45_c => k_is); (case z45_k => k_is)
    case zM_boundary =>
      refine' NA.mf_mk ?z46_a ?z46_i ?z46_l ?z46_c ?z46_k
      (case z46_a => k_is); (case z46_i => k_is); (case z46_l => k_is); (case z46_c => k_is); (case z46_k => k_is)
