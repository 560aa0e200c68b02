import PyProof.Rows.All
import Wide.All
import OpenK.AllK
import Wide.FinOn
import HandS.ForMost
import HandS.ForExc
import HandS.Wide
import HandS.IsInst
import KE.Datum
import HandS.TupAny
import HandS.TupMul
import HandS.Style
import HandS.Zip
import HandS.Rev
import HandS.RevTup
import PyProof.TableCode
import HandS.ExcInit
import HandS.ExcField
import HandS.ExcIs
import HandS.TryOnly
import HandS.TryMany
import HandS.TupSets
import HandS.Conv
import HandS.TupLe
import HandS.FltList
import PySem.Challenge.RW_ringhouse_k11_apart_told
set_option Elab.async false
set_option linter.all false
set_option maxRecDepth 100000
set_option maxHeartbeats 4000000
namespace T
open PySem PySem.Spec PyProof.Rows L2

/-! ### the monad of mirrors -/
inductive XF where
  | int (i : Int) | row (l : List Int) | str (s : Str)
structure Ex where
  cls : Str
  fs : List (Str × XF)
inductive Rs (α : Type) where
  | ok (a : α) | ex (e : Ex)
def M (α : Type) : Type := Option (Rs α)
def ok {α : Type} (a : α) : M α := some (.ok a)
def exc {α : Type} (e : Ex) : M α := some (.ex e)
def stuck {α : Type} : M α := none
def M.bind {α β : Type} (m : M α) (f : α → M β) : M β := match m with
  | none => none
  | some (.ok a) => f a
  | some (.ex e) => some (.ex e)
theorem bind_ok {α β : Type} (a : α) (f : α → M β) : (ok a).bind f = f a := rfl
theorem bind_okS {α β : Type} (a : α) (f : α → M β) : (ok a).bind f = f a := Eq.trans rfl rfl
theorem bind_exc {α β : Type} (e : Ex) (f : α → M β) : (exc e).bind f = exc e := rfl
theorem bind_stuck {α β : Type} (f : α → M β) : (stuck : M α).bind f = stuck := rfl
theorem bind_bind {α β γ : Type} (m : M α) (f : α → M β) (g : β → M γ) : (m.bind f).bind g = m.bind fun a => (f a).bind g := by
  cases m with
  | none => rfl
  | some r => cases r <;> rfl
theorem bind_ret {α : Type} (m : M α) : m.bind ok = m := by
  cases m with
  | none => rfl
  | some r => cases r <;> rfl
/-- a guard -/
@[irreducible] def grd {α : Type} (c : Prop) [Decidable c] (m : M α) : M α := if c then m else none
theorem grd_pos {α : Type} {c : Prop} [Decidable c] (h : c) (m : M α) : grd c m = m := by unfold grd; exact if_pos h
theorem grd_neg {α : Type} {c : Prop} [Decidable c] (h : ¬ c) (m : M α) : grd c m = none := by unfold grd; exact if_neg h

/-! ### heaps -/
abbrev Fr := PySem.W.Frag
abbrev Le (H H' : Hp) : Prop := Same H H'
/-- the heap H and its data part D grow -/
structure Ext (H D H' D' : Hp) : Prop where
  h : Le H H'
  d : Le D D'
  dh : Le D' H'
  out : ∀ p, D p = none → H p ≠ none → D' p = none
theorem Ext.refl {H D : Hp} (h : Le D H) : Ext H D H D := ⟨Same.refl _, Same.refl _, h, fun _ e _ => e⟩
theorem Le.ne {H H' : Hp} (e : Le H H') {p : Addr} (h : H p ≠ none) : H' p ≠ none := fun z => h (e.free z)
theorem Le.eq {H H' : Hp} (e : Le H H') {p : Addr} (h : H p ≠ none) : H' p = H p := by
  cases q : H p with
  | none => exact absurd q h
  | some o => exact e p o q
theorem Ext.trans {H D H1 D1 H2 D2 : Hp} (a : Ext H D H1 D1) (b : Ext H1 D1 H2 D2) : Ext H D H2 D2 :=
  ⟨a.h.trans b.h, a.d.trans b.d, b.dh, fun p h1 h2 => b.out p (a.out p h1 h2) (a.h.ne h2)⟩
theorem Ext.dh0 {H D H' D' : Hp} (a : Ext H D H' D') (h : Le D H) : Le D' H' := a.dh
/-- a new object, laid into the data -/
theorem Ext.laid {H D : Hp} {p : Addr} {o : HO} (h : Le D H) (n : H p = none) : Ext H D (upd H p o) (upd D p o) := by
  have nd : D p = none := h.free n
  refine ⟨fun b x e => ?_, fun b x e => ?_, fun b x e => ?_, fun b h1 h2 => ?_⟩
  · rw [upd_ne (ne_of_none e n)]; exact e
  · rw [upd_ne (ne_of_none e nd)]; exact e
  · by_cases z : b = p
    · subst z; rw [upd_same] at e ⊢; exact e
    · rw [upd_ne z] at e ⊢; exact h b x e
  · by_cases z : b = p
    · subst z; exact absurd n h2
    · rw [upd_ne z]; exact h1
/-- a new object, not in the data -/
theorem Ext.fresh {H D : Hp} {p : Addr} {o : HO} (h : Le D H) (n : H p = none) : Ext H D (upd H p o) D := by
  refine ⟨fun b x e => ?_, Same.refl _, fun b x e => ?_, fun b h1 _ => h1⟩
  · rw [upd_ne (ne_of_none e n)]; exact e
  · rw [upd_ne (ne_of_none (h b x e) n)]; exact h b x e

theorem SqT.mono {K : Fr} {H H' : Hp} {a : Addr} {xs : List V} (e : Le H H') (h : SqT K H a xs) : SqT K H' a xs := by
  rcases h with (h | ⟨o, h⟩) | h
  · exact .inl (.inl (e _ _ h))
  · exact .inl (.inr ⟨o, e _ _ h⟩)
  · exact .inr h

/-! ### types of data -/
structure Dt (α : Type) where
  rep : Fr → Hp → α → V → Prop
  mono : ∀ {K : Fr} {H H' : Hp} {a : α} {v : V}, Le H H' → rep K H a v → rep K H' a v
theorem Dt.monos {α : Type} (A : Dt α) {K : Fr} {H H' : Hp} (e : Le H H') : ∀ {xs : List α} {vs : List V}, Paired (A.rep K H) xs vs → Paired (A.rep K H') xs vs
  | _, _, .nil => .nil
  | _, _, .cons r t => .cons (A.mono e r) (Dt.monos A e t)
def tInt : Dt Int := ⟨fun _ _ i v => v = .int i, fun _ h => h⟩
def tBool : Dt Bool := ⟨fun _ _ i v => v = .bl i, fun _ h => h⟩
def tStr : Dt Str := ⟨fun _ _ i v => v = .str i, fun _ h => h⟩
def tNone : Dt Unit := ⟨fun _ _ _ v => v = .non, fun _ h => h⟩
/-- a tuple of any length -/
def tRow {α : Type} (A : Dt α) : Dt (List α) := ⟨fun K H xs v => ∃ p vs, v = .ref p ∧ SqT K H p vs ∧ Paired (A.rep K H) xs vs,
  fun e ⟨p, vs, h1, h2, h3⟩ => ⟨p, vs, h1, SqT.mono e h2, A.monos e h3⟩⟩
/-- a list that nobody changes -/
def tLst {α : Type} (A : Dt α) : Dt (List α) := ⟨fun K H xs v => ∃ p vs, v = .ref p ∧ H p = some (.lst vs) ∧ Paired (A.rep K H) xs vs,
  fun e ⟨p, vs, h1, h2, h3⟩ => ⟨p, vs, h1, e _ _ h2, A.monos e h3⟩⟩
/-- the script -/
def tScr : Dt (List Int) := ⟨fun K H xs v => ∃ p, v = .ref p ∧ SqL K H p (xs.map V.int), fun e ⟨p, h1, h2⟩ => ⟨p, h1, Same.seq e h2⟩⟩
def tRec2 {α β : Type} (A : Dt α) (B : Dt β) : Dt (α × β) := ⟨fun K H x v => ∃ p v1 v2, v = .ref p ∧ SqT K H p [v1, v2] ∧ A.rep K H x.1 v1 ∧ B.rep K H x.2 v2,
  fun e ⟨p, v1, v2, h1, h2, h3, h4⟩ => ⟨p, v1, v2, h1, SqT.mono e h2, A.mono e h3, B.mono e h4⟩⟩
def tRec3 {α β γ : Type} (A : Dt α) (B : Dt β) (C : Dt γ) : Dt (α × β × γ) := ⟨fun K H x v => ∃ p v1 v2 v3, v = .ref p ∧ SqT K H p [v1, v2, v3] ∧ A.rep K H x.1 v1 ∧ B.rep K H x.2.1 v2 ∧ C.rep K H x.2.2 v3,
  fun e ⟨p, v1, v2, v3, h1, h2, h3, h4, h5⟩ => ⟨p, v1, v2, v3, h1, SqT.mono e h2, A.mono e h3, B.mono e h4, C.mono e h5⟩⟩
def tOpt {α : Type} (A : Dt α) : Dt (Option α) := ⟨fun K H x v => match x with
    | none => v = .non
    | some a => v ≠ .non ∧ A.rep K H a v,
  fun {K H H' a v} e h => by
    cases a with
    | none => exact h
    | some a => exact ⟨h.1, A.mono e h.2⟩⟩

/-! ### what a name may hold -/
structure Rp (α : Type) where
  rep : Fr → Hp → Hp → List Addr → α → V → Prop
  mono : ∀ {K : Fr} {H H' D D' : Hp} {fp : List Addr} {a : α} {v : V}, Le H H' → Le D D' → rep K H D fp a v → rep K H' D' fp a v
def Stable {α : Type} (R : Rp α) : Prop := ∀ (K : Fr) (H H' D D' : Hp) (fp : List Addr) (a : α) (v : V), (∀ p ∈ fp, H' p = H p) → Le D D' → R.rep K H D fp a v → R.rep K H' D' fp a v
def dat {α : Type} (A : Dt α) : Rp α := ⟨fun K _ D fp a v => fp = [] ∧ A.rep K D a v, fun _ e h => ⟨h.1, A.mono e h.2⟩⟩
theorem dat_st {α : Type} (A : Dt α) : Stable (dat A) := fun _ _ _ _ _ _ _ _ _ e h => ⟨h.1, A.mono e h.2⟩
/-- a list of one's own -/
def own {α : Type} (A : Dt α) : Rp (List α) := ⟨fun K H D fp xs v => ∃ p vs, v = .ref p ∧ fp = [p] ∧ H p = some (.lst vs) ∧ Paired (A.rep K D) xs vs,
  fun e d ⟨p, vs, h1, h2, h3, h4⟩ => ⟨p, vs, h1, h2, e _ _ h3, A.monos d h4⟩⟩
theorem own_st {α : Type} (A : Dt α) : Stable (own A) := fun K H H' D D' fp a v k d ⟨p, vs, h1, h2, h3, h4⟩ =>
  ⟨p, vs, h1, h2, by rw [k p (by rw [h2]; exact List.mem_cons_self)]; exact h3, A.monos d h4⟩
/-- a list that may be read now -/
def bor {α : Type} (A : Dt α) : Rp (List α) := ⟨fun K H D fp xs v => fp = [] ∧ ∃ p vs, v = .ref p ∧ SqL K H p vs ∧ Paired (A.rep K D) xs vs,
  fun e d ⟨h0, p, vs, h1, h3, h4⟩ => ⟨h0, p, vs, h1, Same.seq e h3, A.monos d h4⟩⟩

/-! ### views -/
structure Ent where
  slot : Nat
  α : Type
  R : Rp α
  st : Stable R
  val : α
abbrev Vw := List Ent
abbrev eD {α : Type} (i : Nat) (A : Dt α) (a : α) : Ent := ⟨i, α, dat A, dat_st A, a⟩
abbrev eO {α : Type} (i : Nat) (A : Dt α) (a : List α) : Ent := ⟨i, List α, own A, own_st A, a⟩
def find (i : Nat) : Vw → Option Ent
  | [] => none
  | e :: V => bif Nat.beq e.slot i then some e else find i V
def rmv (i : Nat) : Vw → Vw
  | [] => []
  | e :: V => bif Nat.beq e.slot i then rmv i V else e :: rmv i V
def put (e : Ent) (V : Vw) : Vw := e :: rmv e.slot V
def pick : List Nat → Vw → Vw
  | [], _ => []
  | i :: is, V => match find i V with
    | some e => e :: pick is (rmv i V)
    | none => []
def Hold (K : Fr) (H D : Hp) (σ : L2.St) : Vw → List Addr → Prop
  | [], os => os = []
  | e :: V, os => ∃ fp os', os = fp ++ os' ∧ (∃ v, σ[e.slot]? = some (some v) ∧ e.R.rep K H D fp e.val v) ∧ Hold K H D σ V os'
section
variable {K : Fr} {H H' D D' : Hp} {σ : L2.St}
theorem Hold.agree : ∀ {V : Vw} {os : List Addr}, (∀ p ∈ os, H' p = H p) → Le D D' → Hold K H D σ V os → Hold K H' D' σ V os
  | [], _, _, _, h => h
  | e :: V, _, k, d, ⟨fp, os', h1, ⟨v, h2, h3⟩, h4⟩ => ⟨fp, os', h1, ⟨v, h2, e.st K H H' D D' fp e.val v (fun p hp => k p (by rw [h1]; exact List.mem_append_left _ hp)) d h3⟩,
      Hold.agree (fun p hp => k p (by rw [h1]; exact List.mem_append_right _ hp)) d h4⟩
theorem beq_true {a b : Nat} (h : Nat.beq a b = true) : a = b := Nat.eq_of_beq_eq_true h
theorem Hold.rmv (i : Nat) : ∀ {V : Vw} {os : List Addr}, os.Nodup → Hold K H D σ V os → ∃ os', Hold K H D σ (rmv i V) os' ∧ os'.Nodup ∧ ∀ p ∈ os', p ∈ os
  | [], os, nd, h => ⟨os, h, nd, fun _ z => z⟩
  | e :: V, os, nd, ⟨fp, os', h1, h2, h3⟩ => by
    subst h1
    obtain ⟨nd1, nd2, dj⟩ := List.nodup_append.mp nd
    obtain ⟨o2, q1, q2, q3⟩ := Hold.rmv i nd2 h3
    unfold T.rmv
    cases c : Nat.beq e.slot i with
    | true => exact ⟨o2, q1, q2, fun p hp => List.mem_append_right _ (q3 p hp)⟩
    | false =>
      refine ⟨fp ++ o2, ⟨fp, o2, rfl, h2, q1⟩, List.nodup_append.mpr ⟨nd1, q2, fun a ha b hb => dj a ha b (q3 b hb)⟩, fun p hp => ?_⟩
      rcases List.mem_append.mp hp with z | z
      · exact List.mem_append_left _ z
      · exact List.mem_append_right _ (q3 p z)
theorem find_slot {i : Nat} : ∀ {V : Vw} {e : Ent}, find i V = some e → e.slot = i
  | [], _, h => nomatch h
  | e' :: V, e, h => by
    unfold find at h
    cases c : Nat.beq e'.slot i with
    | true => rw [c] at h; cases h; exact beq_true c
    | false => rw [c] at h; exact find_slot h
/-- the entry of a slot, and the rest -/
theorem Hold.find {i : Nat} : ∀ {V : Vw} {os : List Addr} {e : Ent}, find i V = some e → os.Nodup → Hold K H D σ V os →
    ∃ fp os' v, σ[i]? = some (some v) ∧ e.R.rep K H D fp e.val v ∧ Hold K H D σ (T.rmv i V) os' ∧ (fp ++ os').Nodup ∧ (∀ p ∈ fp ++ os', p ∈ os)
  | [], _, _, h, _, _ => nomatch h
  | e' :: V, os, e, h, nd, ⟨fp, os', h1, ⟨v, h2, h2'⟩, h3⟩ => by
    subst h1
    obtain ⟨nd1, nd2, dj⟩ := List.nodup_append.mp nd
    unfold T.find at h
    unfold T.rmv
    cases c : Nat.beq e'.slot i with
    | true =>
      rw [c] at h; cases h
      obtain ⟨o2, q1, q2, q3⟩ := Hold.rmv i nd2 h3
      refine ⟨fp, o2, v, by rw [← beq_true c]; exact h2, h2', q1, List.nodup_append.mpr ⟨nd1, q2, fun a ha b hb => dj a ha b (q3 b hb)⟩, fun p hp => ?_⟩
      rcases List.mem_append.mp hp with z | z
      · exact List.mem_append_left _ z
      · exact List.mem_append_right _ (q3 p z)
    | false =>
      rw [c] at h
      obtain ⟨f2, o2, v2, q1, q2, q3, q4, q5⟩ := Hold.find h nd2 h3
      obtain ⟨m1, m2, mj⟩ := List.nodup_append.mp q4
      refine ⟨f2, fp ++ o2, v2, q1, q2, ⟨fp, o2, rfl, ⟨v, h2, h2'⟩, q3⟩, ?_, fun p hp => ?_⟩
      · refine List.nodup_append.mpr ⟨m1, List.nodup_append.mpr ⟨nd1, m2, fun a ha b hb => dj a ha b (q5 b (List.mem_append_right _ hb))⟩, fun a ha b hb => ?_⟩
        rcases List.mem_append.mp hb with z | z
        · exact fun e => dj b z a (q5 a (List.mem_append_left _ ha)) e.symm
        · exact mj a ha b z
      · rcases List.mem_append.mp hp with z | z
        · exact List.mem_append_right _ (q5 p (List.mem_append_left _ z))
        · rcases List.mem_append.mp z with z | z
          · exact List.mem_append_left _ z
          · exact List.mem_append_right _ (q5 p (List.mem_append_right _ z))
theorem Hold.set {i : Nat} {w : Option V} : ∀ {V : Vw} {os : List Addr}, Hold K H D σ (T.rmv i V) os → Hold K H D (σ.set i w) (T.rmv i V) os
  | [], _, h => h
  | e :: V, os, h => by
    unfold T.rmv at h ⊢
    cases c : Nat.beq e.slot i with
    | true => rw [c] at h; exact Hold.set h
    | false =>
      rw [c] at h
      obtain ⟨fp, os', h1, ⟨v, h2, h3⟩, h4⟩ := h
      refine ⟨fp, os', h1, ⟨v, ?_, h3⟩, Hold.set h4⟩
      rw [List.getElem?_set_ne]
      · exact h2
      · intro z; rw [z] at c; rw [Nat.beq_refl] at c; cases c
theorem Hold.pick : ∀ {is : List Nat} {V : Vw} {os : List Addr}, os.Nodup → Hold K H D σ V os → ∃ os', Hold K H D σ (T.pick is V) os' ∧ os'.Nodup ∧ ∀ p ∈ os', p ∈ os
  | [], _, _, _, _ => ⟨[], rfl, List.nodup_nil, fun _ z => nomatch z⟩
  | i :: is, V, os, nd, h => by
    unfold T.pick
    cases c : T.find i V with
    | none => exact ⟨[], rfl, List.nodup_nil, fun _ z => nomatch z⟩
    | some e =>
      obtain ⟨fp, os', v, q1, q2, q3, q4, q5⟩ := Hold.find c nd h
      obtain ⟨m1, m2, mj⟩ := List.nodup_append.mp q4
      obtain ⟨o3, p1, p2, p3⟩ := Hold.pick (is := is) m2 q3
      refine ⟨fp ++ o3, ⟨fp, o3, rfl, ⟨v, by rw [find_slot c]; exact q1, q2⟩, p1⟩, List.nodup_append.mpr ⟨m1, p2, fun a ha b hb => mj a ha b (p3 b hb)⟩, fun p hp => ?_⟩
      rcases List.mem_append.mp hp with z | z
      · exact q5 p (List.mem_append_left _ z)
      · exact q5 p (List.mem_append_right _ (p3 p z))
end

/-- the state within a def: H0, D0 its entry -/
structure Rel (K : Fr) (H0 D0 : Hp) (V : Vw) (σ : L2.St) (H D : Hp) (os : List Addr) : Prop where
  ext : Ext H0 D0 H D
  own : ∀ p ∈ os, H0 p = none ∧ D p = none ∧ H p ≠ none
  nd : os.Nodup
  hold : Hold K H D σ V os
section
variable {K : Fr} {H0 D0 H D H1 D1 : Hp} {V : Vw} {σ : L2.St} {os : List Addr}
theorem Rel.grow (r : Rel K H0 D0 V σ H D os) (e : Ext H D H1 D1) : Rel K H0 D0 V σ H1 D1 os :=
  ⟨r.ext.trans e, fun p hp => ⟨(r.own p hp).1, e.out p (r.own p hp).2.1 (r.own p hp).2.2, e.h.ne (r.own p hp).2.2⟩, r.nd,
    r.hold.agree (fun p hp => e.h.eq (r.own p hp).2.2) e.d⟩
theorem Rel.pick (r : Rel K H0 D0 V σ H D os) (is : List Nat) : ∃ os', Rel K H0 D0 (T.pick is V) σ H D os' := by
  obtain ⟨os', q1, q2, q3⟩ := r.hold.pick (is := is) r.nd
  exact ⟨os', r.ext, fun p hp => r.own p (q3 p hp), q2, q1⟩
theorem Rel.rmv (r : Rel K H0 D0 V σ H D os) (i : Nat) : ∃ os', Rel K H0 D0 (T.rmv i V) σ H D os' ∧ ∀ p ∈ os', p ∈ os := by
  obtain ⟨os', q1, q2, q3⟩ := r.hold.rmv i r.nd
  exact ⟨os', ⟨r.ext, fun p hp => r.own p (q3 p hp), q2, q1⟩, q3⟩
theorem Rel.le (r : Rel K H0 D0 V σ H D os) : Le D H := r.ext.dh
end

/-- an exception as it lies -/
def XFrep (K : Fr) (D : Hp) : XF → V → Prop
  | .int i, v => v = .int i
  | .row l, v => (tRow tInt).rep K D l v
  | .str s, v => v = .str s
def XRep (K : Fr) (mg : Str → Option Value) (D : Hp) (e : Ex) (c : Value) (d : Option Addr) : Prop :=
  ∃ C, mg e.cls = some (.ref C) ∧ c = .ref C ∧ match e.fs with
    | [] => d = none
    | f :: fs => ∃ dx vs, d = some dx ∧ D dx = some (.xd vs) ∧ Paired (fun (p : Str × XF) (q : Str × V) => p.1 = q.1 ∧ XFrep K D p.2 q.2) (f :: fs) vs

/-- what a result's own objects are -/
def Frs (H D' H' : Hp) (fp : List Addr) : Prop := fp.Nodup ∧ ∀ p ∈ fp, H p = none ∧ D' p = none ∧ H' p ≠ none
theorem Frs.nil {H D' H' : Hp} : Frs H D' H' [] := ⟨List.nodup_nil, fun _ z => nomatch z⟩
theorem Frs.back {H H1 D' H' : Hp} {fp : List Addr} (e : Le H H1) (f : Frs H1 D' H' fp) : Frs H D' H' fp := ⟨f.1, fun p hp => ⟨e.free (f.2 p hp).1, (f.2 p hp).2⟩⟩
theorem Frs.grow {H D1 H1 D2 H2 : Hp} {fp : List Addr} (f : Frs H D1 H1 fp) (e : Ext H1 D1 H2 D2) : Frs H D2 H2 fp :=
  ⟨f.1, fun p hp => ⟨(f.2 p hp).1, e.out p (f.2 p hp).2.1 (f.2 p hp).2.2, e.h.ne (f.2 p hp).2.2⟩⟩

/-- what surrounds an expression: the wish about exceptions, the view that it leans on, the calls that there is room for -/
structure Ctx where
  W : WX
  Vx : Vw
  k : Nat
  c : Bool
structure Wf (X : Cx) (G : Ctx) : Prop where
  tk : Takes X G.W
  nd : X.N.Nodup
  room : G.c = true → Room G.k X.A
  calm : G.c = true → X.calm = true
  hu : X.A.units + 64 < cLine
  po : PassesOwn (model X.prog X.w) X.A X.env X.xe

def ePost {α : Type} (K : Fr) (mg : Str → Option Value) (G : Ctx) (H0 D0 : Hp) (σ : L2.St) (H D : Hp) (R : Rp α) (Q : VK) : Rs α → Prop
  | .ok a => ∀ v H' D' fp, Ext H D H' D' → R.rep K H' D' fp a v → Frs H D' H' fp → Q v H'
  | .ex e => ∀ c d H' D' os', Rel K H0 D0 G.Vx σ H' D' os' → XRep K mg D' e c d → G.W c d σ H'
def tE {α : Type} (K : Fr) (mg : Str → Option Value) (G : Ctx) (V : Vw) (R : Rp α) (r : M α) : TE := fun σ H Q =>
  ∃ H0 D0 D os, Rel K H0 D0 V σ H D os ∧ ∃ x, r = some x ∧ ePost K mg G H0 D0 σ H D R Q x
/-- a test's -/
def bPost (K : Fr) (mg : Str → Option Value) (G : Ctx) (H0 D0 : Hp) (σ : L2.St) (H D : Hp) (Q : Bool → Hp → Prop) : Rs Bool → Prop
  | .ok a => ∀ H' D', Ext H D H' D' → Q a H'
  | .ex e => ∀ c d H' D' os', Rel K H0 D0 G.Vx σ H' D' os' → XRep K mg D' e c d → G.W c d σ H'
def tB (K : Fr) (mg : Str → Option Value) (G : Ctx) (V : Vw) (r : M Bool) : TT := fun σ H Q =>
  ∃ H0 D0 D os, Rel K H0 D0 V σ H D os ∧ ∃ x, r = some x ∧ bPost K mg G H0 D0 σ H D Q x

def ET (X : Cx) (G : Ctx) (V : Vw) (e : Expr) {α : Type} (R : Rp α) (r : M α) : Prop := Wf X G → PE X e (tE X.K X.mg G V R r)
def BT (X : Cx) (G : Ctx) (V : Vw) (e : Expr) (r : M Bool) : Prop := Wf X G → PT X e (tB X.K X.mg G V r)
/-- .. within and, or -/
def BW (X : Cx) (G : Ctx) (V : Vw) (e : Expr) (r : M Bool) : Prop := Wf X G → PW X e (tB X.K X.mg G V r)

theorem _root_.L2.PE.weak {X : Cx} {e : Expr} {t t' : TE} (h : PE X e t) (w : ∀ σ H Q, t' σ H Q → t σ H Q) : PE X e t' := ⟨fun pins s σ H Q I hq => h.run pins s σ H Q I (w _ _ _ hq)⟩
theorem _root_.L2.PT.weak {X : Cx} {e : Expr} {t t' : TT} (h : PT X e t) (w : ∀ σ H Q, t' σ H Q → t σ H Q) : PT X e t' := ⟨fun pins s σ H Q I hq => h.run pins s σ H Q I (w _ _ _ hq)⟩
theorem _root_.L2.PW.weak {X : Cx} {e : Expr} {t t' : TT} (h : PW X e t) (w : ∀ σ H Q, t' σ H Q → t σ H Q) : PW X e t' := ⟨fun wh pins s σ H Q I hq => h.run wh pins s σ H Q I (w _ _ _ hq)⟩
theorem _root_.L2.PA.weak {X : Cx} {e : List Expr} {t t' : TA} (h : PA X e t) (w : ∀ σ H Q, t' σ H Q → t σ H Q) : PA X e t' := ⟨fun pos pins s σ H Q I hq => h.run pos pins s σ H Q I (w _ _ _ hq)⟩
theorem _root_.L2.PS.weak {X : Cx} {e : Stmt} {t t' : TS} (h : PS X e t) (w : ∀ D σ H, t' D σ H → t D σ H) : PS X e t' := ⟨fun pins s σ H D I hq => h.run pins s σ H D I (w _ _ _ hq)⟩
theorem _root_.L2.PSs.weak {X : Cx} {e : List Stmt} {t t' : TS} (h : PSs X e t) (w : ∀ D σ H, t' D σ H → t D σ H) : PSs X e t' := ⟨fun pins s σ H D I hq => h.run pins s σ H D I (w _ _ _ hq)⟩

section
variable {α β : Type} {K : Fr} {mg : Str → Option Value} {G : Ctx} {H0 D0 H D H1 D1 : Hp} {σ : L2.St} {V : Vw} {os : List Addr}
theorem ePost.grow {R : Rp α} {Q : VK} {x : Rs α} (h : ePost K mg G H0 D0 σ H D R Q x) (e : Ext H D H1 D1) : ePost K mg G H0 D0 σ H1 D1 R Q x := by
  cases x with
  | ok a => exact fun v H' D' fp e' r f => h v H' D' fp (e.trans e') r (f.back e.h)
  | ex _ => exact h
theorem bPost.grow {Q : Bool → Hp → Prop} {x : Rs Bool} (h : bPost K mg G H0 D0 σ H D Q x) (e : Ext H D H1 D1) : bPost K mg G H0 D0 σ H1 D1 Q x := by
  cases x with
  | ok a => exact fun H' D' e' => h H' D' (e.trans e')
  | ex _ => exact h
theorem bind_some {m : M α} {f : α → M β} {x : Rs β} (h : m.bind f = some x) : (∃ a, m = ok a ∧ f a = some x) ∨ ∃ e, m = exc e ∧ x = .ex e := by
  cases m with
  | none => cases h
  | some r =>
    cases r with
    | ok a => exact .inl ⟨a, rfl, h⟩
    | ex e => exact .inr ⟨e, rfl, (Option.some.inj h).symm⟩
/-- a part, then the rest -/
theorem seqE {R : Rp α} {m : M α} {f : α → M β} {x : Rs β} {P : Hp → Hp → Rs β → Prop} {Q' : VK} (hr : Rel K H0 D0 V σ H D os) (hx : m.bind f = some x) (hp : P H D x)
    (hex : ∀ e, P H D (.ex e) → ∀ c d H' D' os', Rel K H0 D0 G.Vx σ H' D' os' → XRep K mg D' e c d → G.W c d σ H')
    (hgrow : ∀ H1 D1, Ext H D H1 D1 → P H D x → P H1 D1 x)
    (k : ∀ a H1 D1 fp v, m = ok a → f a = some x → Ext H D H1 D1 → R.rep K H1 D1 fp a v → Frs H D1 H1 fp → Rel K H0 D0 V σ H1 D1 os → P H1 D1 x → Q' v H1) :
    tE K mg G V R m σ H Q' := by
  rcases bind_some hx with ⟨a, rfl, hf⟩ | ⟨e, rfl, rfl⟩
  · exact ⟨H0, D0, D, os, hr, .ok a, rfl, fun v H' D' fp e r f => k a H' D' fp v rfl hf e r f (hr.grow e) (hgrow _ _ e hp)⟩
  · exact ⟨H0, D0, D, os, hr, .ex e, rfl, hex e hp⟩
theorem seqEE {R : Rp α} {R' : Rp β} {m : M α} {f : α → M β} {x : Rs β} {Q Q' : VK} (hr : Rel K H0 D0 V σ H D os) (hx : m.bind f = some x) (hp : ePost K mg G H0 D0 σ H D R' Q x)
    (k : ∀ a H1 D1 fp v, m = ok a → f a = some x → Ext H D H1 D1 → R.rep K H1 D1 fp a v → Frs H D1 H1 fp → Rel K H0 D0 V σ H1 D1 os → ePost K mg G H0 D0 σ H1 D1 R' Q x → Q' v H1) :
    tE K mg G V R m σ H Q' := seqE (P := fun H D x => ePost K mg G H0 D0 σ H D R' Q x) hr hx hp (fun _ h => h) (fun _ _ e h => h.grow e) k
theorem seqEB {R : Rp α} {m : M α} {f : α → M Bool} {x : Rs Bool} {Q : Bool → Hp → Prop} {Q' : VK} (hr : Rel K H0 D0 V σ H D os) (hx : m.bind f = some x) (hp : bPost K mg G H0 D0 σ H D Q x)
    (k : ∀ a H1 D1 fp v, m = ok a → f a = some x → Ext H D H1 D1 → R.rep K H1 D1 fp a v → Frs H D1 H1 fp → Rel K H0 D0 V σ H1 D1 os → bPost K mg G H0 D0 σ H1 D1 Q x → Q' v H1) :
    tE K mg G V R m σ H Q' := seqE (P := fun H D x => bPost K mg G H0 D0 σ H D Q x) hr hx hp (fun _ h => h) (fun _ _ e h => h.grow e) k
/-- a test, then the rest -/
theorem seqB {m : M Bool} {f : Bool → M β} {x : Rs β} {P : Hp → Hp → Rs β → Prop} {Q' : Bool → Hp → Prop} (hr : Rel K H0 D0 V σ H D os) (hx : m.bind f = some x) (hp : P H D x)
    (hex : ∀ e, P H D (.ex e) → ∀ c d H' D' os', Rel K H0 D0 G.Vx σ H' D' os' → XRep K mg D' e c d → G.W c d σ H')
    (hgrow : ∀ H1 D1, Ext H D H1 D1 → P H D x → P H1 D1 x)
    (k : ∀ a H1 D1, m = ok a → f a = some x → Ext H D H1 D1 → Rel K H0 D0 V σ H1 D1 os → P H1 D1 x → Q' a H1) :
    tB K mg G V m σ H Q' := by
  rcases bind_some hx with ⟨a, rfl, hf⟩ | ⟨e, rfl, rfl⟩
  · exact ⟨H0, D0, D, os, hr, .ok a, rfl, fun H' D' e => k a H' D' rfl hf e (hr.grow e) (hgrow _ _ e hp)⟩
  · exact ⟨H0, D0, D, os, hr, .ex e, rfl, hex e hp⟩
theorem seqBE {R' : Rp β} {m : M Bool} {f : Bool → M β} {x : Rs β} {Q : VK} {Q' : Bool → Hp → Prop} (hr : Rel K H0 D0 V σ H D os) (hx : m.bind f = some x) (hp : ePost K mg G H0 D0 σ H D R' Q x)
    (k : ∀ a H1 D1, m = ok a → f a = some x → Ext H D H1 D1 → Rel K H0 D0 V σ H1 D1 os → ePost K mg G H0 D0 σ H1 D1 R' Q x → Q' a H1) :
    tB K mg G V m σ H Q' := seqB (P := fun H D x => ePost K mg G H0 D0 σ H D R' Q x) hr hx hp (fun _ h => h) (fun _ _ e h => h.grow e) k
theorem seqBB {m : M Bool} {f : Bool → M Bool} {x : Rs Bool} {Q : Bool → Hp → Prop} {Q' : Bool → Hp → Prop} (hr : Rel K H0 D0 V σ H D os) (hx : m.bind f = some x) (hp : bPost K mg G H0 D0 σ H D Q x)
    (k : ∀ a H1 D1, m = ok a → f a = some x → Ext H D H1 D1 → Rel K H0 D0 V σ H1 D1 os → bPost K mg G H0 D0 σ H1 D1 Q x → Q' a H1) :
    tB K mg G V m σ H Q' := seqB (P := fun H D x => bPost K mg G H0 D0 σ H D Q x) hr hx hp (fun _ h => h) (fun _ _ e h => h.grow e) k
/-- handing on a value of data, the heap as it is -/
theorem ePost.here {A : Dt α} {Q : VK} {a : α} {v : L2.V} (hr : Rel K H0 D0 V σ H D os) (h : ePost K mg G H0 D0 σ H D (dat A) Q (.ok a)) (r : A.rep K D a v) : Q v H := h v H D [] (Ext.refl hr.le) ⟨rfl, r⟩ .nil
end
end T

set_option maxRecDepth 100000
set_option maxHeartbeats 4000000
namespace T
open PySem PySem.Spec PyProof.Rows L2
section
variable {X : Cx} {G : Ctx} {Γ : Vw} {α β γ δ : Type} {a b c : Expr} {pos : Pos}

/-! ### names, constants -/
theorem E_var (i : Nat) {x : Str} {A : Dt α} {val : α} (hf : find i Γ = some (eD i A val) := by rfl) (hN : X.N[i]? = some x := by rfl) (hv : Vis X.env.scope x := by first | exact Or.inl rfl | exact Or.inr (Or.inl rfl) | exact Or.inr (Or.inr rfl))
    (hd : (x == ("__debug__" : Str)) = false := by decide) (hcd : (x == ("__classdict__" : Str)) = false := by decide) : ET X G Γ (.Name x pos) (dat A) (ok val) := fun w =>
  (pe_var hN hv hd hcd).weak fun σ H Q ⟨H0, D0, D, os, hr, x, hx, hp⟩ => by
    cases hx
    obtain ⟨fp, os', v, q1, ⟨q2, q3⟩, _, _, _⟩ := hr.hold.find hf hr.nd
    exact ⟨v, q1, hp.here hr q3⟩
/-- a list of one's own, to be read at once -/
theorem E_own (i : Nat) {x : Str} {A : Dt α} {val : List α} (hf : find i Γ = some (eO i A val) := by rfl) (hN : X.N[i]? = some x := by rfl) (hv : Vis X.env.scope x := by first | exact Or.inl rfl | exact Or.inr (Or.inl rfl) | exact Or.inr (Or.inr rfl))
    (hd : (x == ("__debug__" : Str)) = false := by decide) (hcd : (x == ("__classdict__" : Str)) = false := by decide) : ET X G Γ (.Name x pos) (bor A) (ok val) := fun w =>
  (pe_var hN hv hd hcd).weak fun σ H Q ⟨H0, D0, D, os, hr, x, hx, hp⟩ => by
    cases hx
    obtain ⟨fp, os', v, q1, ⟨p, vs, r1, r2, r3, r4⟩, _, _, _⟩ := hr.hold.find hf hr.nd
    exact ⟨v, q1, hp v H D [] (Ext.refl hr.le) ⟨rfl, p, vs, r1, SqL.of r3, r4⟩ .nil⟩
theorem E_int {i : Int} {j : Nat} : ET X G Γ (.Constant (.int i) j pos) (dat tInt) (ok i) := fun w =>
  pe_int.weak fun σ H Q ⟨H0, D0, D, os, hr, x, hx, hp⟩ => by cases hx; exact hp.here hr rfl
theorem E_bool {i : Bool} {j : Nat} : ET X G Γ (.Constant (.bool i) j pos) (dat tBool) (ok i) := fun w =>
  pe_bl.weak fun σ H Q ⟨H0, D0, D, os, hr, x, hx, hp⟩ => by cases hx; exact hp.here hr rfl
theorem E_str {i : Str} {j : Nat} : ET X G Γ (.Constant (.str i) j pos) (dat tStr) (ok i) := fun w =>
  pe_str.weak fun σ H Q ⟨H0, D0, D, os, hr, x, hx, hp⟩ => by cases hx; exact hp.here hr rfl
theorem E_none {j : Nat} : ET X G Γ (.Constant .none j pos) (dat tNone) (ok ()) := fun w =>
  pe_non.weak fun σ H Q ⟨H0, D0, D, os, hr, x, hx, hp⟩ => by cases hx; exact hp.here hr rfl
theorem E_noneO {A : Dt α} {j : Nat} : ET X G Γ (.Constant .none j pos) (dat (tOpt A)) (ok none) := fun w =>
  pe_non.weak fun σ H Q ⟨H0, D0, D, os, hr, x, hx, hp⟩ => by cases hx; exact hp.here hr rfl
/-- a constant of the module -/
structure GlobD (K : Fr) (mg : Str → Option Value) (x : Str) (A : Dt α) (val : α) : Prop where
  ex : ∃ u v, mg x = some u ∧ RelV v u ∧ ∀ H, A.rep K H val v
theorem E_glob {x : Str} {A : Dt α} {val : α} (h : GlobD X.K X.mg x A val) (hg : Gl X x := by rfl) (hd : (x == ("__debug__" : Str)) = false := by decide) : ET X G Γ (.Name x pos) (dat A) (ok val) := fun w => by
  obtain ⟨u, v, h1, h2, h3⟩ := h.ex
  exact (pe_glob hg h1 h2 hd).weak fun σ H Q ⟨H0, D0, D, os, hr, x, hx, hp⟩ => by cases hx; exact hp.here hr (h3 D)

/-! ### from one type to another -/
theorem E_eq {R : Rp α} {r r' : M α} (h : ET X G Γ a R r) (e : r = r') : ET X G Γ a R r' := e ▸ h
/-- a fresh list, never changed from here on -/
theorem E_frz {A : Dt α} {r : M (List α)} (h : ET X G Γ a (own A) r) : ET X G Γ a (dat (tLst A)) r := fun w =>
  (h w).weak fun σ H Q ⟨H0, D0, D, os, hr, x, hx, hp⟩ => ⟨H0, D0, D, os, hr, x, hx, by
    cases x with
    | ex e => exact hp
    | ok xs =>
      intro v H' D' fp e ⟨p, vs, r1, r2, r3, r4⟩ f
      subst r1; subst r2
      obtain ⟨f1, f2, f3⟩ := f.2 p List.mem_cons_self
      have hup : Le D' (upd D' p (.lst vs)) := fun b o z => by rw [upd_ne (ne_of_none z f2)]; exact z
      refine hp (.ref p) H' (upd D' p (.lst vs)) [] ⟨e.h, e.d.trans hup, fun b o z => ?_, fun b h1 h2 => ?_⟩ ⟨rfl, p, vs, rfl, upd_same, A.monos hup r4⟩ .nil
      · by_cases q : b = p
        · subst q; rw [upd_same] at z; cases z; exact r3
        · rw [upd_ne q] at z; exact e.dh b o z
      · by_cases q : b = p
        · subst q; exact absurd f1 h2
        · rw [upd_ne q]; exact e.out b h1 h2⟩
theorem E_bor {A : Dt α} {r : M (List α)} (h : ET X G Γ a (dat (tLst A)) r) : ET X G Γ a (bor A) r := fun w =>
  (h w).weak fun σ H Q ⟨H0, D0, D, os, hr, x, hx, hp⟩ => ⟨H0, D0, D, os, hr, x, hx, by
    cases x with
    | ex e => exact hp
    | ok xs =>
      intro v H' D' fp e ⟨h0, p, vs, r1, r3, r4⟩ f
      exact hp v H' D' [] e ⟨rfl, p, vs, r1, SqL.of (e.dh _ _ r3), r4⟩ .nil⟩
theorem E_borF {A : Dt α} {r : M (List α)} (h : ET X G Γ a (own A) r) : ET X G Γ a (bor A) r := E_bor (E_frz h)
theorem Paired.ints {K : Fr} {D : Hp} : ∀ {xs : List Int}, Paired (tInt.rep K D) xs (xs.map V.int)
  | [] => .nil
  | x :: xs => .cons rfl (Paired.ints (xs := xs))
theorem E_borS {r : M (List Int)} (h : ET X G Γ a (dat tScr) r) : ET X G Γ a (bor tInt) r := fun w =>
  (h w).weak fun σ H Q ⟨H0, D0, D, os, hr, x, hx, hp⟩ => ⟨H0, D0, D, os, hr, x, hx, by
    cases x with
    | ex e => exact hp
    | ok xs =>
      intro v H' D' fp e ⟨h0, p, r1, r3⟩ f
      exact hp v H' D' [] e ⟨rfl, p, _, r1, Same.seq e.dh r3, Paired.ints⟩ .nil⟩
theorem E_some {A : Dt α} {r : M α} (nn : ∀ K H x v, A.rep K H x v → v ≠ .non) (h : ET X G Γ a (dat A) r) : ET X G Γ a (dat (tOpt A)) (r.bind fun x => ok (some x)) := fun w =>
  (h w).weak fun σ H Q ⟨H0, D0, D, os, hr, x, hx, hp⟩ => by
    rcases bind_some hx with ⟨y, rfl, hf⟩ | ⟨e, rfl, rfl⟩
    · cases hf
      exact ⟨H0, D0, D, os, hr, _, rfl, fun v H' D' fp e ⟨h1, h2⟩ f => hp v H' D' fp e ⟨h1, nn _ _ _ _ h2, h2⟩ f⟩
    · exact ⟨H0, D0, D, os, hr, _, rfl, hp⟩
/-- what is known not to be None -/
def unO {α : Type} : Option α → M α
  | some x => ok x
  | none => stuck
theorem E_unO {A : Dt α} {r : M (Option α)} (h : ET X G Γ a (dat (tOpt A)) r) : ET X G Γ a (dat A) (r.bind unO) := fun w =>
  (h w).weak fun σ H Q ⟨H0, D0, D, os, hr, x, hx, hp⟩ => by
    rcases bind_some hx with ⟨y, rfl, hf⟩ | ⟨e, rfl, rfl⟩
    · cases y with
      | none => cases hf
      | some y =>
        cases hf
        exact ⟨H0, D0, D, os, hr, _, rfl, fun v H' D' fp e ⟨h1, h2, h3⟩ f => hp v H' D' fp e ⟨h1, h3⟩ f⟩
    · exact ⟨H0, D0, D, os, hr, _, rfl, hp⟩

/-! ### operations of two -/
def NX2 {α β γ : Type} (g : α → β → M γ) : Prop := ∀ a b e, g a b ≠ exc e
def Op2 (K : Fr) (r2 : R2) (A : Rp α) (B : Rp β) (R : Rp γ) (g : α → β → M γ) : Prop :=
  ∀ (H D : Hp) a b va vb fa fb c Q, Le D H → A.rep K H D fa a va → B.rep K H D fb b vb → g a b = ok c →
    (∀ v H' D' fp, Ext H D H' D' → R.rep K H' D' fp c v → Frs H D' H' fp → Q v H') → r2 va vb H Q
theorem E_op2 {op : Operator} {r2 : R2} {A : Rp α} {B : Rp β} {R : Rp γ} {g : α → β → M γ} {ra : M α} {rb : M β} (ho : OpR X (binaryOp op) r2) (hs : Op2 X.K r2 A B R g) (nx : NX2 g)
    (ha : ET X G Γ a A ra) (hb : ET X G Γ b B rb) : ET X G Γ (.BinOp a op b pos) R (ra.bind fun x => rb.bind fun y => g x y) := fun w =>
  (pe_op ho (ha w) (hb w)).weak fun σ H Q ⟨H0, D0, D, os, hr, x, hx, hp⟩ =>
    seqEE hr hx hp fun i H1 D1 fp v _ hx1 e1 r1 f1 hr1 hp1 => seqEE hr1 hx1 hp1 fun j H2 D2 fp2 v2 _ hx2 e2 r2 f2 hr2 hp2 => by
      cases x with
      | ok c => exact hs H2 D2 i j v v2 fp fp2 c Q hr2.le (A.mono e2.h e2.d r1) r2 hx2 hp2
      | ex e => exact absurd hx2 (nx _ _ _)
/-- comparisons, as values -/
def Cp2 (K : Fr) (r2 : R2) (A : Rp α) (B : Rp β) (g : α → β → Bool) : Prop :=
  ∀ (H D : Hp) a b va vb fa fb Q, Le D H → A.rep K H D fa a va → B.rep K H D fb b vb → Q (.bl (g a b)) H → r2 va vb H Q
theorem E_cmp {op : CmpOp} {r2 : R2} {A : Rp α} {B : Rp β} {g : α → β → Bool} {ra : M α} {rb : M β} (ho : OpR X (compareOp op) r2) (hs : Cp2 X.K r2 A B g) (hm : behindInMarks op b = false)
    (ha : ET X G Γ a A ra) (hb : ET X G Γ b B rb) : ET X G Γ (.Compare a [op] [b] pos) (dat tBool) (ra.bind fun x => rb.bind fun y => ok (g x y)) := fun w =>
  (pe_cmpR ho (ha w) (hb w) hm).weak fun σ H Q ⟨H0, D0, D, os, hr, x, hx, hp⟩ =>
    seqEE hr hx hp fun i H1 D1 fp v _ hx1 e1 r1 f1 hr1 hp1 => seqEE hr1 hx1 hp1 fun j H2 D2 fp2 v2 _ hx2 e2 r2 f2 hr2 hp2 => by
      cases hx2
      exact hs H2 D2 i j v v2 fp fp2 Q hr2.le (A.mono e2.h e2.d r1) r2 (hp2.here hr2 rfl)
theorem B_cmp {op : CmpOp} {r2 : R2} {A : Rp α} {B : Rp β} {g : α → β → Bool} {ra : M α} {rb : M β} (ho : OpR X (compareOp op) r2) (hs : Cp2 X.K r2 A B g) (hm : behindInMarks op b = false)
    (ha : ET X G Γ a A ra) (hb : ET X G Γ b B rb) : BT X G Γ (.Compare a [op] [b] pos) (ra.bind fun x => rb.bind fun y => ok (g x y)) := fun w =>
  (pt_cmpR ho (ha w) (hb w) hm).weak fun σ H Q ⟨H0, D0, D, os, hr, x, hx, hp⟩ =>
    seqEB hr hx hp fun i H1 D1 fp v _ hx1 e1 r1 f1 hr1 hp1 => seqEB hr1 hx1 hp1 fun j H2 D2 fp2 v2 _ hx2 e2 r2 f2 hr2 hp2 => by
      cases hx2
      exact hs H2 D2 i j v v2 fp fp2 _ hr2.le (A.mono e2.h e2.d r1) r2 ⟨_, rfl, hp2 H2 D2 (Ext.refl hr2.le)⟩
/-- two comparisons in a chain, as a test; the middle asked once -/
theorem B_chain {op op' : CmpOp} {r2 r2' : R2} {A : Rp α} {B : Rp β} {C : Rp γ} {g : α → β → Bool} {g' : β → γ → Bool} {ra : M α} {rb : M β} {rc : M γ} (ho : OpR X (compareOp op) r2) (ho' : OpR X (compareOp op') r2')
    (hs : Cp2 X.K r2 A B g) (hs' : Cp2 X.K r2' B C g') (ha : ET X G Γ a A ra) (hb : ET X G Γ b B rb) (hc : ET X G Γ c C rc) (hm : lastMarks [op, op'] [b, c] = false := by with_unfolding_all rfl) :
    BT X G Γ (.Compare a [op, op'] [b, c] pos) (ra.bind fun x => rb.bind fun y => if g x y = true then rc.bind fun z => ok (g' y z) else ok false) := fun w =>
  (pt_chain ho ho' (ha w) (hb w) (hc w) hm).weak fun σ H Q ⟨H0, D0, D, os, hr, x, hx, hp⟩ =>
    seqEB hr hx hp fun i H1 D1 fp v _ hx1 e1 r1 f1 hr1 hp1 => seqEB hr1 hx1 hp1 fun j H2 D2 fp2 v2 _ hx2 e2 r2 f2 hr2 hp2 => by
      refine hs H2 D2 i j v v2 fp fp2 _ hr2.le (A.mono e2.h e2.d r1) r2 ⟨_, rfl, ?_⟩
      by_cases z : g i j = true
      · rw [if_pos z] at hx2 ⊢
        exact seqEB hr2 hx2 hp2 fun k H3 D3 fp3 v3 _ hx3 e3 r3 f3 hr3 hp3 => by
          cases hx3
          exact hs' H3 D3 j k v2 v3 fp2 fp3 _ hr3.le (B.mono e3.h e3.d r2) r3 ⟨_, rfl, hp3 H3 D3 (Ext.refl hr3.le)⟩
      · rw [if_neg z] at hx2 ⊢
        cases hx2
        exact ⟨_, rfl, hp2 H2 D2 (Ext.refl hr2.le)⟩
theorem E_chain {op op' : CmpOp} {r2 r2' : R2} {A : Rp α} {B : Rp β} {C : Rp γ} {g : α → β → Bool} {g' : β → γ → Bool} {ra : M α} {rb : M β} {rc : M γ} (ho : OpR X (compareOp op) r2) (ho' : OpR X (compareOp op') r2')
    (hs : Cp2 X.K r2 A B g) (hs' : Cp2 X.K r2' B C g') (ha : ET X G Γ a A ra) (hb : ET X G Γ b B rb) (hc : ET X G Γ c C rc) (hm : lastMarks [op, op'] [b, c] = false := by with_unfolding_all rfl) :
    ET X G Γ (.Compare a [op, op'] [b, c] pos) (dat tBool) (ra.bind fun x => rb.bind fun y => if g x y = true then rc.bind fun z => ok (g' y z) else ok false) := fun w =>
  (pe_chain ho ho' (ha w) (hb w) (hc w) hm).weak fun σ H Q ⟨H0, D0, D, os, hr, x, hx, hp⟩ =>
    seqEE hr hx hp fun i H1 D1 fp v _ hx1 e1 r1 f1 hr1 hp1 => seqEE hr1 hx1 hp1 fun j H2 D2 fp2 v2 _ hx2 e2 r2 f2 hr2 hp2 => by
      refine hs H2 D2 i j v v2 fp fp2 _ hr2.le (A.mono e2.h e2.d r1) r2 ⟨_, rfl, ?_⟩
      by_cases z : g i j = true
      · rw [if_pos z] at hx2 ⊢
        exact seqEE hr2 hx2 hp2 fun k H3 D3 fp3 v3 _ hx3 e3 r3 f3 hr3 hp3 => by
          cases hx3
          exact hs' H3 D3 j k v2 v3 fp2 fp3 _ hr3.le (B.mono e3.h e3.d r2) r3 (hp3.here hr3 rfl)
      · rw [if_neg z] at hx2 ⊢
        cases hx2
        have e : g i j = false := by simpa using z
        exact hp2.here hr2 (show V.bl false = V.bl false from rfl)

/-! ### numbers -/
theorem op2I {r2 : R2} {g : Int → Int → M Int} (h : ∀ H i j c Q, g i j = ok c → Q (.int c) H → r2 (.int i) (.int j) H Q) (K : Fr) : Op2 K r2 (dat tInt) (dat tInt) (dat tInt) g := by
  intro H D i j va vb fa fb c Q le ⟨_, z1⟩ ⟨_, z2⟩ hg k
  cases (show va = V.int i from z1)
  cases (show vb = V.int j from z2)
  exact h H i j c Q hg (k (.int c) H D [] (Ext.refl le) ⟨rfl, rfl⟩ .nil)
theorem E_add {ra rb : M Int} (ha : ET X G Γ a (dat tInt) ra) (hb : ET X G Γ b (dat tInt) rb) : ET X G Γ (.BinOp a .Add b pos) (dat tInt) (ra.bind fun x => rb.bind fun y => ok (x + y)) :=
  E_op2 op_add (op2I (fun H i j c Q e q => by cases e; exact ⟨_, _, rfl, rfl, q⟩) _) (fun _ _ _ z => nomatch z) ha hb
theorem E_sub {ra rb : M Int} (ha : ET X G Γ a (dat tInt) ra) (hb : ET X G Γ b (dat tInt) rb) : ET X G Γ (.BinOp a .Sub b pos) (dat tInt) (ra.bind fun x => rb.bind fun y => ok (x - y)) :=
  E_op2 op_sub (op2I (fun H i j c Q e q => by cases e; exact ⟨_, _, rfl, rfl, q⟩) _) (fun _ _ _ z => nomatch z) ha hb
def MulOk (i j : Int) : Prop := (i.natAbs < 2 ^ 64 ∨ j.natAbs < 2 ^ 64) ∨ i.natAbs.log2 + j.natAbs.log2 < 1000000
instance (i j : Int) : Decidable (MulOk i j) := by unfold MulOk; exact inferInstance
def pmul (i j : Int) : M Int := grd (MulOk i j) (ok (i * j))
theorem grd_some {c : Prop} [Decidable c] {m : M α} {x : Rs α} (h : grd c m = some x) : c ∧ m = some x := by
  by_cases hc : c
  · rw [grd_pos hc] at h; exact ⟨hc, h⟩
  · have e : grd c m = none := grd_neg hc m
    rw [e] at h; cases h
theorem grd_ok {c : Prop} [Decidable c] {m : M α} {x : α} (h : grd c m = ok x) : c ∧ m = ok x := grd_some h
theorem grd_nx {c : Prop} [Decidable c] {m : M α} {e : Ex} (h : m ≠ exc e) : grd c m ≠ exc e := fun z => h (grd_some z).2
theorem nat64 {i : Int} (h : i.natAbs < 2 ^ 64) : -(2 ^ 64) < i ∧ i < 2 ^ 64 := by omega
theorem op_mulA : OpR X (binaryOp .Mult) (rI MulOk fun i j => .int (i * j)) := opI fun i j _ _ _ _ _ hc q => mul_int q (by
  rcases hc with (h | h) | h
  · exact CMul.ok (.inl (nat64 h))
  · exact CMul.ok (.inr (nat64 h))
  · exact CMulW.ok h)
theorem E_mul {ra rb : M Int} (ha : ET X G Γ a (dat tInt) ra) (hb : ET X G Γ b (dat tInt) rb) : ET X G Γ (.BinOp a .Mult b pos) (dat tInt) (ra.bind fun x => rb.bind fun y => pmul x y) :=
  E_op2 op_mulA (op2I (fun H i j c Q e q => by obtain ⟨h1, h2⟩ := grd_ok e; cases h2; exact ⟨_, _, rfl, rfl, h1, q⟩) _) (fun _ _ _ => grd_nx (fun z => nomatch z)) ha hb
/-- one factor written and small -/
theorem E_mulL {i : Int} {rb : M Int} (h : i.natAbs < 2 ^ 64) (ha : ET X G Γ a (dat tInt) (ok i)) (hb : ET X G Γ b (dat tInt) rb) : ET X G Γ (.BinOp a .Mult b pos) (dat tInt) (rb.bind fun y => ok (i * y)) :=
  E_eq (E_mul ha hb) (by show (rb.bind fun y => pmul i y) = _; congr 1; funext y; exact grd_pos (.inl (.inl h)) _)
theorem E_mulR {j : Int} {ra : M Int} (h : j.natAbs < 2 ^ 64) (ha : ET X G Γ a (dat tInt) ra) (hb : ET X G Γ b (dat tInt) (ok j)) : ET X G Γ (.BinOp a .Mult b pos) (dat tInt) (ra.bind fun x => ok (x * j)) :=
  E_eq (E_mul ha hb) (by congr 1; funext y; exact grd_pos (.inl (.inr h)) _)
def pmod (i j : Int) : M Int := grd (j ≠ 0) (ok (i.fmod j))
def pdiv (i j : Int) : M Int := grd (j ≠ 0 ∧ j.natAbs.log2 < 9000) (ok (i.fdiv j))
theorem op_fdivA : OpR X (binaryOp .FloorDiv) (rI (fun i j => j ≠ 0 ∧ j.natAbs.log2 < 9000) fun i j => .int (i.fdiv j)) := opI fun i j _ _ _ _ _ hc q =>
  floordiv_int hc.1 q (.inl (PyProof.noPylong_of_log2 hc.2))
theorem E_mod {ra rb : M Int} (ha : ET X G Γ a (dat tInt) ra) (hb : ET X G Γ b (dat tInt) rb) : ET X G Γ (.BinOp a .Mod b pos) (dat tInt) (ra.bind fun x => rb.bind fun y => pmod x y) :=
  E_op2 op_modN (op2I (fun H i j c Q e q => by obtain ⟨h1, h2⟩ := grd_ok e; cases h2; exact ⟨_, _, rfl, rfl, h1, q⟩) _) (fun _ _ _ => grd_nx (fun z => nomatch z)) ha hb
theorem E_div {ra rb : M Int} (ha : ET X G Γ a (dat tInt) ra) (hb : ET X G Γ b (dat tInt) rb) : ET X G Γ (.BinOp a .FloorDiv b pos) (dat tInt) (ra.bind fun x => rb.bind fun y => pdiv x y) :=
  E_op2 op_fdivA (op2I (fun H i j c Q e q => by obtain ⟨h1, h2⟩ := grd_ok e; cases h2; exact ⟨_, _, rfl, rfl, h1, q⟩) _) (fun _ _ _ => grd_nx (fun z => nomatch z)) ha hb
theorem E_modR {j : Int} {ra : M Int} (h : 0 < j) (ha : ET X G Γ a (dat tInt) ra) (hb : ET X G Γ b (dat tInt) (ok j)) : ET X G Γ (.BinOp a .Mod b pos) (dat tInt) (ra.bind fun x => ok (x % j)) :=
  E_eq (E_mod ha hb) (by congr 1; funext y; show grd _ _ = _; rw [grd_pos (by omega : j ≠ 0), Int.fmod_eq_emod_of_nonneg _ (by omega)])
theorem E_divR {j : Int} {ra : M Int} (h : 0 < j) (h2 : j < 1073741824) (ha : ET X G Γ a (dat tInt) ra) (hb : ET X G Γ b (dat tInt) (ok j)) : ET X G Γ (.BinOp a .FloorDiv b pos) (dat tInt) (ra.bind fun x => ok (x / j)) :=
  E_eq (E_div ha hb) (by
    congr 1; funext y; show grd _ _ = _
    have h3 : j.natAbs.log2 < 9000 := by
      have : j.natAbs.log2 < 30 := (Nat.log2_lt (by omega)).mpr (by omega)
      omega
    rw [grd_pos ⟨by omega, h3⟩, Int.fdiv_eq_ediv_of_nonneg _ (by omega)])
instance (i j : Int) : Decidable (CPow i j) := by unfold CPow; exact inferInstance
def ppow (i j : Int) : M Int := grd (CPow i j) (ok (i ^ j.toNat))
theorem E_pow {ra rb : M Int} (ha : ET X G Γ a (dat tInt) ra) (hb : ET X G Γ b (dat tInt) rb) : ET X G Γ (.BinOp a .Pow b pos) (dat tInt) (ra.bind fun x => rb.bind fun y => ppow x y) :=
  E_op2 op_pow (op2I (fun H i j c Q e q => by obtain ⟨h1, h2⟩ := grd_ok e; cases h2; exact ⟨_, _, rfl, rfl, h1, q⟩) _) (fun _ _ _ => grd_nx (fun z => nomatch z)) ha hb
theorem E_powC {i : Int} (n : Nat) (h : i.natAbs < 2 ^ 64) (hn : n ≤ 1000000) (ha : ET X G Γ a (dat tInt) (ok i)) (hb : ET X G Γ b (dat tInt) (ok (n : Int))) : ET X G Γ (.BinOp a .Pow b pos) (dat tInt) (ok (i ^ n)) :=
  E_eq (E_pow ha hb) (by show grd _ _ = _; rw [grd_pos (show CPow i n from ⟨by omega, by omega, h⟩), Int.toNat_natCast])
theorem E_neg {ra : M Int} (ha : ET X G Γ a (dat tInt) ra) : ET X G Γ (.UnaryOp .USub a pos) (dat tInt) (ra.bind fun x => ok (-x)) := fun w =>
  (pe_un un_neg (ha w)).weak fun σ H Q ⟨H0, D0, D, os, hr, x, hx, hp⟩ =>
    seqEE hr hx hp fun i H1 D1 fp v _ hx1 e1 r1 f1 hr1 hp1 => by
      cases hx1
      obtain ⟨_, rfl⟩ := r1
      exact ⟨i, rfl, hp1.here hr1 rfl⟩
theorem cp2I {r2 : R2} {g : Int → Int → Bool} (h : ∀ H i j Q, Q (.bl (g i j)) H → r2 (.int i) (.int j) H Q) (K : Fr) : Cp2 K r2 (dat tInt) (dat tInt) g := by
  intro H D i j va vb fa fb Q le ⟨_, z1⟩ ⟨_, z2⟩ k
  cases (show va = V.int i from z1)
  cases (show vb = V.int j from z2)
  exact h H i j Q k
theorem cp_lt (K : Fr) : Cp2 K (rI0 fun i j => .bl (decide (i < j))) (dat tInt) (dat tInt) fun i j => decide (i < j) := cp2I (fun H i j Q q => ⟨i, j, rfl, rfl, q⟩) K
theorem cp_le (K : Fr) : Cp2 K (rI0 fun i j => .bl (decide (i ≤ j))) (dat tInt) (dat tInt) fun i j => decide (i ≤ j) := cp2I (fun H i j Q q => ⟨i, j, rfl, rfl, q⟩) K
theorem cp_gt (K : Fr) : Cp2 K (rI0 fun i j => .bl (decide (j < i))) (dat tInt) (dat tInt) fun i j => decide (j < i) := cp2I (fun H i j Q q => ⟨i, j, rfl, rfl, q⟩) K
theorem cp_ge (K : Fr) : Cp2 K (rI0 fun i j => .bl (decide (j ≤ i))) (dat tInt) (dat tInt) fun i j => decide (j ≤ i) := cp2I (fun H i j Q q => ⟨i, j, rfl, rfl, q⟩) K
theorem cp_eq (K : Fr) : Cp2 K rEq (dat tInt) (dat tInt) fun i j => decide (i = j) := cp2I (fun H i j Q q => ⟨rfl, by
  have : decide (V.int i = V.int j) = decide (i = j) := by rw [dec_int]; exact Bool.beq_eq_decide_eq _ _
  rw [this]; exact q⟩) K
theorem cp_ne (K : Fr) : Cp2 K rNe (dat tInt) (dat tInt) fun i j => !decide (i = j) := cp2I (fun H i j Q q => ⟨rfl, by
  have : decide (V.int i = V.int j) = decide (i = j) := by rw [dec_int]; exact Bool.beq_eq_decide_eq _ _
  rw [this]; exact q⟩) K

/-! ### tests -/
theorem B_val {ra : M Bool} (ha : ET X G Γ a (dat tBool) ra) (he : ∀ whole, isTrue a X.env whole = (do let v ← whole; standAt a.pos; holding [v] (truthy v)) := by intro _; rfl) : BT X G Γ a ra := fun w =>
  (pt_val (ha w) he).weak fun σ H Q ⟨H0, D0, D, os, hr, x, hx, hp⟩ => ⟨H0, D0, D, os, hr, x, hx, by
    cases x with
    | ex e => exact hp
    | ok b =>
      intro v H' D' fp e ⟨h1, h2⟩ f
      exact ⟨b, h2, hp H' D' e⟩⟩
theorem B_eq {r r' : M Bool} (h : BT X G Γ a r) (e : r = r') : BT X G Γ a r' := e ▸ h
theorem B_not {ra : M Bool} (ha : BT X G Γ a ra) : BT X G Γ (.UnaryOp .Not a pos) (ra.bind fun x => ok (!x)) := fun w =>
  (pt_not (ha w)).weak fun σ H Q ⟨H0, D0, D, os, hr, x, hx, hp⟩ =>
    seqBB hr hx hp fun i H1 D1 _ hx1 e1 hr1 hp1 => by
      cases hx1
      exact hp1 H1 D1 (Ext.refl hr1.le)
variable {rest : List Expr}
theorem W_and1 {ra : M Bool} (ha : BT X G Γ a ra) : BW X G Γ (.BoolOp .And [a] pos) ra := fun w => pw_and1 (ha w)
theorem W_or1 {ra : M Bool} (ha : BT X G Γ a ra) : BW X G Γ (.BoolOp .Or [a] pos) ra := fun w => pw_or1 (ha w)
theorem W_and {ra rb : M Bool} (ha : BT X G Γ a ra) (hb : BW X G Γ (.BoolOp .And (b :: rest) pos) rb) : BW X G Γ (.BoolOp .And (a :: b :: rest) pos) (ra.bind fun x => if x = true then rb else ok false) := fun w =>
  (pw_and (ha w) (hb w)).weak fun σ H Q ⟨H0, D0, D, os, hr, x, hx, hp⟩ =>
    seqBB hr hx hp fun i H1 D1 _ hx1 e1 hr1 hp1 => by
      cases i with
      | true => exact ⟨H0, D0, D1, os, hr1, x, hx1, hp1⟩
      | false => cases hx1; exact hp1 H1 D1 (Ext.refl hr1.le)
theorem W_or {ra rb : M Bool} (ha : BT X G Γ a ra) (hb : BW X G Γ (.BoolOp .Or (b :: rest) pos) rb) : BW X G Γ (.BoolOp .Or (a :: b :: rest) pos) (ra.bind fun x => if x = true then ok true else rb) := fun w =>
  (pw_or (ha w) (hb w)).weak fun σ H Q ⟨H0, D0, D, os, hr, x, hx, hp⟩ =>
    seqBB hr hx hp fun i H1 D1 _ hx1 e1 hr1 hp1 => by
      cases i with
      | false => exact ⟨H0, D0, D1, os, hr1, x, hx1, hp1⟩
      | true => cases hx1; exact hp1 H1 D1 (Ext.refl hr1.le)
theorem B_w {ra : M Bool} (ha : BW X G Γ a ra) : BT X G Γ a ra := fun w => (ha w).pt
/-- and, or as values -/
theorem E_one {op} {ra : M Bool} (ha : ET X G Γ a (dat tBool) ra) : ET X G Γ (.BoolOp op [a] pos) (dat tBool) ra := fun w => pe_one (ha w)
theorem E_and {ra rb : M Bool} (ha : ET X G Γ a (dat tBool) ra) (hb : ET X G Γ (.BoolOp .And (b :: rest) pos) (dat tBool) rb) : ET X G Γ (.BoolOp .And (a :: b :: rest) pos) (dat tBool) (ra.bind fun x => if x = true then rb else ok false) := fun w =>
  (pe_and (ha w) (hb w)).weak fun σ H Q ⟨H0, D0, D, os, hr, x, hx, hp⟩ =>
    seqEE hr hx hp fun i H1 D1 fp v _ hx1 e1 r1 f1 hr1 hp1 => by
      refine ⟨i, r1.2, ?_⟩
      cases i with
      | true => exact ⟨H0, D0, D1, os, hr1, x, hx1, hp1⟩
      | false => cases hx1; exact hp1.here hr1 (show V.bl false = V.bl false from rfl)
theorem E_or {ra rb : M Bool} (ha : ET X G Γ a (dat tBool) ra) (hb : ET X G Γ (.BoolOp .Or (b :: rest) pos) (dat tBool) rb) : ET X G Γ (.BoolOp .Or (a :: b :: rest) pos) (dat tBool) (ra.bind fun x => if x = true then ok true else rb) := fun w =>
  (pe_or (ha w) (hb w)).weak fun σ H Q ⟨H0, D0, D, os, hr, x, hx, hp⟩ =>
    seqEE hr hx hp fun i H1 D1 fp v _ hx1 e1 r1 f1 hr1 hp1 => by
      refine ⟨i, r1.2, ?_⟩
      cases i with
      | false => exact ⟨H0, D0, D1, os, hr1, x, hx1, hp1⟩
      | true => cases hx1; exact hp1.here hr1 (show V.bl true = V.bl true from rfl)
theorem E_not {ra : M Bool} (ha : ET X G Γ a (dat tBool) ra) : ET X G Γ (.UnaryOp .Not a pos) (dat tBool) (ra.bind fun x => ok (!x)) := fun w =>
  (pe_not (ha w)).weak fun σ H Q ⟨H0, D0, D, os, hr, x, hx, hp⟩ =>
    seqEE hr hx hp fun i H1 D1 fp v _ hx1 e1 r1 f1 hr1 hp1 => by
      cases hx1
      exact ⟨i, r1.2, hp1.here hr1 rfl⟩
theorem E_if {R : Rp α} {rc : M Bool} {ra rb : M α} (hc : BT X G Γ c rc) (ha : ET X G Γ a R ra) (hb : ET X G Γ b R rb) : ET X G Γ (.IfExp c a b pos) R (rc.bind fun x => if x = true then ra else rb) := fun w =>
  (pe_ifExp (hc w) (ha w) (hb w)).weak fun σ H Q ⟨H0, D0, D, os, hr, x, hx, hp⟩ =>
    seqBE hr hx hp fun i H1 D1 _ hx1 e1 hr1 hp1 => by
      cases i with
      | true => exact ⟨H0, D0, D1, os, hr1, x, hx1, hp1⟩
      | false => exact ⟨H0, D0, D1, os, hr1, x, hx1, hp1⟩
end
end T

set_option maxRecDepth 100000
set_option maxHeartbeats 4000000
namespace T
open PySem PySem.Spec PyProof.Rows L2

/-! ### arguments -/
inductive Ap : Type → Type 1 where
  | nil : Ap Unit
  | cons {α τ : Type} (A : Dt α) (B : Ap τ) : Ap (α × τ)
def Ap.rep (K : Fr) (D : Hp) : {τ : Type} → Ap τ → τ → List L2.V → Prop
  | _, .nil, _, vs => vs = []
  | _, .cons A B, t, vs => ∃ v r, vs = v :: r ∧ A.rep K D t.1 v ∧ Ap.rep K D B t.2 r
theorem Ap.rep_cons {K : Fr} {D : Hp} {α τ : Type} {A : Dt α} {B : Ap τ} {t : α × τ} {vs : List L2.V} : Ap.rep K D (.cons A B) t vs ↔ ∃ v r, vs = v :: r ∧ A.rep K D t.1 v ∧ Ap.rep K D B t.2 r := Iff.rfl
def Ap.len : {τ : Type} → Ap τ → Nat
  | _, .nil => 0
  | _, .cons A B => B.len + 1
def Ap.view : {τ : Type} → Nat → Ap τ → τ → Vw
  | _, _, .nil, _ => []
  | _, i, .cons A B, t => eD i A t.1 :: Ap.view (i + 1) B t.2
theorem Ap.mono {K : Fr} {H H' : Hp} (e : Le H H') : ∀ {τ : Type} {B : Ap τ} {t : τ} {vs : List L2.V}, B.rep K H t vs → B.rep K H' t vs
  | _, .nil, _, _, h => h
  | _, .cons A B, t, vs, h => by
    obtain ⟨v, r, h1, h2, h3⟩ := Ap.rep_cons.mp h
    exact Ap.rep_cons.mpr ⟨v, r, h1, A.mono e h2, Ap.mono e h3⟩
theorem Ap.length {K : Fr} {H : Hp} : ∀ {τ : Type} {B : Ap τ} {t : τ} {vs : List L2.V}, B.rep K H t vs → vs.length = B.len
  | _, .nil, _, _, h => by cases (show _ = [] from h); rfl
  | _, .cons A B, t, vs, h => by
    obtain ⟨v, r, h1, h2, h3⟩ := Ap.rep_cons.mp h
    subst h1; exact congrArg (· + 1) (Ap.length h3)
theorem Ap.hold {K : Fr} {H D : Hp} {more : List (Option L2.V)} : ∀ {τ : Type} {B : Ap τ} {t : τ} {vs : List L2.V} (pre : List (Option L2.V)), B.rep K D t vs → Hold K H D (pre ++ vs.map some ++ more) (B.view pre.length t) []
  | _, .nil, _, _, _, _ => rfl
  | _, .cons A B, t, vs, pre, h => by
    obtain ⟨v, r, h1, h2, h3⟩ := Ap.rep_cons.mp h
    subst h1
    refine ⟨[], [], rfl, ⟨v, ?_, rfl, h2⟩, ?_⟩
    · show (pre ++ (some v :: r.map some) ++ more)[pre.length]? = _
      simp
    · have := Ap.hold (K := K) (H := H) (D := D) (more := more) (pre ++ [some v]) h3
      rw [List.length_append] at this
      simpa using this

def aPost {τ γ : Type} (K : Fr) (B : Ap τ) (k : τ → M γ) (H D : Hp) (x : Rs γ) (P : Hp → Hp → Rs γ → Prop) (Q : List L2.V → Hp → Prop) : Prop :=
  ∀ t vs H' D', k t = some x → Ext H D H' D' → B.rep K D' t vs → P H' D' x → Q vs H'
/-- arguments, then k -/
def tAr {τ γ : Type} (K : Fr) (mg : Str → Option Value) (G : Ctx) (Γ : Vw) (B : Ap τ) (k : τ → M γ) (r : M γ) : TA := fun σ H Q =>
  ∃ H0 D0 D os x, ∃ P : Hp → Hp → Rs γ → Prop, Rel K H0 D0 Γ σ H D os ∧ r = some x ∧ P H D x ∧ (∀ H1 D1, Ext H D H1 D1 → ∀ H2 D2, Ext H1 D1 H2 D2 → P H1 D1 x → P H2 D2 x) ∧
    (∀ e, x = .ex e → ∀ c d H' D' os', Rel K H0 D0 G.Vx σ H' D' os' → XRep K mg D' e c d → G.W c d σ H') ∧ aPost K B k H D x P Q
def AR (X : Cx) (G : Ctx) (Γ : Vw) (es : List Expr) {τ γ : Type} (B : Ap τ) (k : τ → M γ) (r : M γ) : Prop := Wf X G → PA X es (tAr X.K X.mg G Γ B k r)
section
variable {X : Cx} {G : Ctx} {Γ : Vw} {α β γ δ τ ρ : Type} {a b c : Expr} {pos : Pos} {es : List Expr}
theorem A_nil {k : Unit → M γ} : AR X G Γ [] .nil k (k ()) := fun w =>
  pa_nil.weak fun σ H Q ⟨H0, D0, D, os, x, P, hr, hx, hp, hg, he, q⟩ => q () [] H D hx (Ext.refl hr.le) rfl hp
theorem A_cons {A : Dt α} {B : Ap τ} {k : α × τ → M γ} {ra : M α} {rr : α → M γ} (ha : ET X G Γ a (dat A) ra) (hb : ∀ x, AR X G Γ es B (fun t => k (x, t)) (rr x))
    (hs : starEach (a :: es) X.env = (false, eval a X.env) :: starEach es X.env := by rfl) : AR X G Γ (a :: es) (.cons A B) k (ra.bind rr) := fun w => by
  have hb' : PA X es (fun σ H Q => ∃ x, tAr X.K X.mg G Γ B (fun t => k (x, t)) (rr x) σ H Q) := ⟨fun pos pins s σ H Q I ⟨x, h⟩ => (hb x w).run pos pins s σ H Q I h⟩
  refine (pa_cons (ha w) hb' hs).weak fun σ H Q ⟨H0, D0, D, os, x, P, hr, hx, hp, hg, he, q⟩ => ?_
  rcases bind_some hx with ⟨y, rfl, hf⟩ | ⟨e, rfl, rfl⟩
  · refine ⟨H0, D0, D, os, hr, _, rfl, fun v H1 D1 fp e1 r1 f1 => ⟨y, H0, D0, D1, os, x, P, hr.grow e1, hf, hg _ _ (Ext.refl hr.le) _ _ e1 hp, fun H2 D2 e2 => hg H2 D2 (e1.trans e2), he, fun t vs H' D' hk e2 ht p2 => ?_⟩⟩
    exact q (y, t) (v :: vs) H' D' hk (e1.trans e2) ⟨v, vs, rfl, A.mono e2.d r1.2, ht⟩ p2
  · exact ⟨H0, D0, D, os, hr, _, rfl, he _ rfl⟩

/-! ### calls of defs -/
def spT (K : Fr) (mg : Str → Option Value) (B : Ap τ) (R : Rp ρ) (m : τ → M ρ) : Sp := fun vs H Q E => ∃ D t, Le D H ∧ B.rep K D t vs ∧ ∃ x, m t = some x ∧ match x with
  | .ok r => ∀ v H' D' fp, Ext H D H' D' → R.rep K H' D' fp r v → Frs H D' H' fp → Q v H'
  | .ex e => ∀ c d H' D', Ext H D H' D' → XRep K mg D' e c d → E c d H'
structure Fx (P : Program) (w : World) (K : Fr) (mg : Str → Option Value) (base : Heap) (x : Str) (k : Nat) (B : Ap τ) (R : Rp ρ) (m : τ → M ρ) : Prop where
  ex : ∃ f fd ps, FnOk P w K mg base (L2.CX P w) k f fd ps (spT K mg B R m) ∧ mg x = some (.ref f) ∧ PySem.W.keepIn K (.ref f) = true ∧ Binds K fd ps []
theorem E_call {x : Str} {k : Nat} {B : Ap τ} {R : Rp ρ} {m : τ → M ρ} {r : M ρ} {p : Pos} (F : Fx X.prog X.w X.K X.mg X.base x k B R m) (hk : k ≤ G.k) (ha : AR X G Γ (a :: es) B m r) (is : List Nat) (hv : pick is Γ = G.Vx) (hc : G.c = true := by rfl) (hg : Gl X x := by rfl)
    (hdb : (x == ("__debug__" : Str)) = false := by decide) (he : starEach (a :: es) X.env = (false, eval a X.env) :: starEach es X.env := by rfl) (hpl : (backTo pos (starEach es X.env)).any (·.1) = false := by rfl) :
    ET X G Γ (.Call (.Name x p) (a :: es) [] pos) R r := fun w => by
  obtain ⟨f, fd, ps, F, hm, hkp, hb⟩ := F.ex
  refine (pe_callS F ((w.room hc).mono hk) hg hm hkp hb (fun σ => passAt w.tk σ) (ha w) hdb he hpl).weak fun σ H Q ⟨H0, D0, D, os, hr, x, hx, hp⟩ => ?_
  refine ⟨H0, D0, D, os, x, fun H1 D1 x => ePost X.K X.mg G H0 D0 σ H1 D1 R Q x, hr, hx, hp, fun _ _ _ _ _ e2 h => h.grow e2, fun e z => by subst z; exact hp, fun t vs H1 D1 hk e1 ht hp1 => ?_⟩
  refine ⟨D1, t, e1.dh, ht, x, hk, ?_⟩
  cases x with
  | ok y => exact hp1
  | ex e =>
    intro c d H' D' e2 hxr
    obtain ⟨os', q⟩ := ((hr.grow e1).grow e2).pick is
    rw [hv] at q
    exact hp1 c d H' D' os' q hxr
theorem E_call0 {x : Str} {k : Nat} {R : Rp ρ} {m : Unit → M ρ} {p : Pos} (F : Fx X.prog X.w X.K X.mg X.base x k .nil R m) (hk : k ≤ G.k) (is : List Nat) (hv : pick is Γ = G.Vx) (hc : G.c = true := by rfl) (hg : Gl X x := by rfl)
    (hdb : (x == ("__debug__" : Str)) = false := by decide) : ET X G Γ (.Call (.Name x p) [] [] pos) R (m ()) := fun w => by
  obtain ⟨f, fd, ps, F, hm, hkp, hb⟩ := F.ex
  refine ⟨fun pins s σ H Q I ⟨H0, D0, D, os, hr, x, hx, hp⟩ => ?_⟩
  refine wpAny_Call_Name_kw (ld_glob I hg hm ?_ hdb)
  refine PySem.W.callWith_K0 I.kIn hkp (run_fnS (E := WE G.W) (us := []) F ((w.room hc).mono hk) hb (passAt w.tk σ) I .nil ⟨D, (), hr.le, rfl, x, hx, ?_⟩)
  cases x with
  | ok y => exact hp
  | ex e =>
    intro c d H' D' e2 hxr
    obtain ⟨os', q⟩ := (hr.grow e2).pick is
    rw [hv] at q
    exact hp c d H' D' os' q hxr

/-! ### built-ins with one or two arguments -/
def Cb1 (K : Fr) (r : List L2.V → Hp → VK → Prop) (A : Rp α) (R : Rp β) (g : α → M β) : Prop :=
  ∀ (H D : Hp) a va fa c Q, Le D H → A.rep K H D fa a va → g a = ok c → (∀ v H' D' fp, Ext H D H' D' → R.rep K H' D' fp c v → Frs H D' H' fp → Q v H') → r [va] H Q
def NX1 {α β : Type} (g : α → M β) : Prop := ∀ a e, g a ≠ exc e
theorem cb_core {A : Rp α} {R : Rp β} {g : α → M β} {ra : M α} {rr : List L2.V → Hp → VK → Prop} (hs : Cb1 X.K rr A R g) (nx : NX1 g) (σ : L2.St) (H : Hp) (Q : VK) (h : tE X.K X.mg G Γ R (ra.bind g) σ H Q) :
    tCB rr (tCons (tE X.K X.mg G Γ A ra) tNil) σ H Q := by
  obtain ⟨H0, D0, D, os, hr, x, hx, hp⟩ := h
  exact seqEE hr hx hp fun i H1 D1 fp v _ hx1 e1 r1 f1 hr1 hp1 => by
    cases x with
    | ok c => exact hs H1 D1 i v fp c Q hr1.le r1 hx1 hp1
    | ex e => exact absurd hx1 (nx _ _)
theorem E_bi1 {id : String} {x : Str} {rr : List L2.V → Hp → VK → Prop} {A : Rp α} {R : Rp β} {g : α → M β} {ra : M α} {p : Pos} (hc : CallR X (.builtin id) rr) (hs : Cb1 X.K rr A R g) (nx : NX1 g) (hm : X.mg x = none) (hv : bootBuiltins x = some (.builtin id))
    (ha : ET X G Γ a A ra) (hg : Gl X x := by rfl) (hn : x ≠ "__name__" := by decide) (hdb : (x == ("__debug__" : Str)) = false := by decide) (hs1 : starEach [a] X.env = [(false, eval a X.env)] := by rfl) (hpl : (backTo pos (starEach [] X.env)).any (·.1) = false := by rfl) :
    ET X G Γ (.Call (.Name x p) [a] [] pos) R (ra.bind g) := fun w =>
  (pe_callB hc hg hm hv (pa_cons (ha w) pa_nil hs1) hn hdb hs1 hpl).weak fun σ H Q h => cb_core hs nx σ H Q h
theorem E_ty1 {id : String} {x : Str} {rr : List L2.V → Hp → VK → Prop} {A : Rp α} {R : Rp β} {g : α → M β} {ra : M α} {p : Pos} (hc : CallR X (.type id) rr) (hs : Cb1 X.K rr A R g) (nx : NX1 g) (hm : X.mg x = none) (hv : bootBuiltins x = some (.type id))
    (ha : ET X G Γ a A ra) (hg : Gl X x := by rfl) (hn : x ≠ "__name__" := by decide) (hdb : (x == ("__debug__" : Str)) = false := by decide) (hs1 : starEach [a] X.env = [(false, eval a X.env)] := by rfl) (hpl : (backTo pos (starEach [] X.env)).any (·.1) = false := by rfl) :
    ET X G Γ (.Call (.Name x p) [a] [] pos) R (ra.bind g) := fun w =>
  (pe_callTy hc hg hm hv (pa_cons (ha w) pa_nil hs1) hn hdb hs1 hpl).weak fun σ H Q h => cb_core hs nx σ H Q h
def Cb2 (K : Fr) (r : List L2.V → Hp → VK → Prop) (A : Rp α) (B : Rp β) (R : Rp γ) (g : α → β → M γ) : Prop :=
  ∀ (H D : Hp) a b va vb fa fb c Q, Le D H → A.rep K H D fa a va → B.rep K H D fb b vb → g a b = ok c → (∀ v H' D' fp, Ext H D H' D' → R.rep K H' D' fp c v → Frs H D' H' fp → Q v H') → r [va, vb] H Q
theorem E_bi2 {id : String} {x : Str} {rr : List L2.V → Hp → VK → Prop} {A : Rp α} {B : Rp β} {R : Rp γ} {g : α → β → M γ} {ra : M α} {rb : M β} {p : Pos} (hc : CallR X (.builtin id) rr) (hs : Cb2 X.K rr A B R g) (nx : NX2 g) (hm : X.mg x = none) (hv : bootBuiltins x = some (.builtin id))
    (ha : ET X G Γ a A ra) (hb : ET X G Γ b B rb) (hg : Gl X x := by rfl) (hn : x ≠ "__name__" := by decide) (hdb : (x == ("__debug__" : Str)) = false := by decide)
    (hs1 : starEach [a, b] X.env = (false, eval a X.env) :: starEach [b] X.env := by rfl) (hs2 : starEach [b] X.env = [(false, eval b X.env)] := by rfl) (hpl : (backTo pos (starEach [b] X.env)).any (·.1) = false := by rfl) :
    ET X G Γ (.Call (.Name x p) [a, b] [] pos) R (ra.bind fun y => rb.bind fun z => g y z) := fun w =>
  (pe_callB hc hg hm hv (pa_cons (ha w) (pa_cons (hb w) pa_nil hs2) hs1) hn hdb hs1 hpl).weak fun σ H Q ⟨H0, D0, D, os, hr, x, hx, hp⟩ =>
    seqEE hr hx hp fun i H1 D1 fp v _ hx1 e1 r1 f1 hr1 hp1 => seqEE hr1 hx1 hp1 fun j H2 D2 fp2 v2 _ hx2 e2 r2 f2 hr2 hp2 => by
      cases x with
      | ok c => exact hs H2 D2 i j v v2 fp fp2 c Q hr2.le (A.mono e2.h e2.d r1) r2 hx2 hp2
      | ex e => exact absurd hx2 (nx _ _ _)
theorem nxok {g : α → β} : NX1 fun a => ok (g a) := fun _ _ z => nomatch z
theorem nxok2 {g : α → β → γ} : NX2 fun a b => ok (g a b) := fun _ _ _ z => nomatch z
theorem E_abs {ra : M Int} {p : Pos} (hm : X.mg "abs" = none) (ha : ET X G Γ a (dat tInt) ra) (hg : Gl X "abs" := by rfl) (hs1 : starEach [a] X.env = [(false, eval a X.env)] := by rfl) :
    ET X G Γ (.Call (.Name "abs" p) [a] [] pos) (dat tInt) (ra.bind fun x => ok (x.natAbs : Int)) :=
  E_bi1 (A := dat tInt) (R := dat tInt) call_abs (fun H D a va fa c Q le ⟨_, z⟩ hg k => by
    cases hg
    cases (show va = V.int a from z)
    refine ⟨a, rfl, k _ H D [] (Ext.refl le) ⟨rfl, show V.int _ = V.int _ from ?_⟩ .nil⟩
    congr 1
    split <;> omega) nxok hm (by decide +kernel) ha hg (by decide) (by decide) hs1 rfl
theorem E_max2 {ra rb : M Int} {p : Pos} (hm : X.mg "max" = none) (hcl : X.calm = true) (ha : ET X G Γ a (dat tInt) ra) (hb : ET X G Γ b (dat tInt) rb) (hg : Gl X "max" := by rfl) (hs1 : starEach [a, b] X.env = (false, eval a X.env) :: starEach [b] X.env := by rfl) (hs2 : starEach [b] X.env = [(false, eval b X.env)] := by rfl)
    (hpl : (backTo pos (starEach [b] X.env)).any (·.1) = false := by rfl) :
    ET X G Γ (.Call (.Name "max" p) [a, b] [] pos) (dat tInt) (ra.bind fun x => rb.bind fun y => ok (max x y)) :=
  E_bi2 (A := dat tInt) (B := dat tInt) (R := dat tInt) (call_max2 hcl) (fun H D a b va vb fa fb c Q le ⟨_, z1⟩ ⟨_, z2⟩ hg k => by
    cases hg
    cases (show va = V.int a from z1)
    cases (show vb = V.int b from z2)
    refine ⟨a, b, rfl, k _ H D [] (Ext.refl le) ⟨rfl, show V.int _ = V.int _ from ?_⟩ .nil⟩
    congr 1
    split <;> omega) nxok2 hm (by decide +kernel) ha hb hg (by decide) (by decide) hs1 hs2 hpl
theorem E_min2 {ra rb : M Int} {p : Pos} (hm : X.mg "min" = none) (hcl : X.calm = true) (ha : ET X G Γ a (dat tInt) ra) (hb : ET X G Γ b (dat tInt) rb) (hg : Gl X "min" := by rfl) (hs1 : starEach [a, b] X.env = (false, eval a X.env) :: starEach [b] X.env := by rfl) (hs2 : starEach [b] X.env = [(false, eval b X.env)] := by rfl)
    (hpl : (backTo pos (starEach [b] X.env)).any (·.1) = false := by rfl) :
    ET X G Γ (.Call (.Name "min" p) [a, b] [] pos) (dat tInt) (ra.bind fun x => rb.bind fun y => ok (min x y)) :=
  E_bi2 (A := dat tInt) (B := dat tInt) (R := dat tInt) (call_min2 hcl) (fun H D a b va vb fa fb c Q le ⟨_, z1⟩ ⟨_, z2⟩ hg k => by
    cases hg
    cases (show va = V.int a from z1)
    cases (show vb = V.int b from z2)
    refine ⟨a, b, rfl, k _ H D [] (Ext.refl le) ⟨rfl, show V.int _ = V.int _ from ?_⟩ .nil⟩
    congr 1
    split <;> omega) nxok2 hm (by decide +kernel) ha hb hg (by decide) (by decide) hs1 hs2 hpl
def b2n (b : Bool) : Int := if b = true then 1 else 0
theorem E_intB {ra : M Bool} {p : Pos} (hm : X.mg "int" = none) (ha : ET X G Γ a (dat tBool) ra) (hg : Gl X "int" := by rfl) (hs1 : starEach [a] X.env = [(false, eval a X.env)] := by rfl) :
    ET X G Γ (.Call (.Name "int" p) [a] [] pos) (dat tInt) (ra.bind fun x => ok (b2n x)) :=
  E_ty1 (A := dat tBool) (R := dat tInt) call_int1 (fun H D a va fa c Q le ⟨_, z⟩ hg k => by
    cases hg
    cases (show va = V.bl a from z)
    exact .inr ⟨a, rfl, k _ H D [] (Ext.refl le) ⟨rfl, rfl⟩ .nil⟩) nxok hm (by decide +kernel) ha hg (by decide) (by decide) hs1 rfl
theorem Paired.len {α β : Type} {F : α → β → Prop} : ∀ {xs : List α} {ys : List β}, Paired F xs ys → xs.length = ys.length := fun h => Paired.length h
theorem cb_len {A : Dt α} : Cb1 X.K (fun xs H Q => ∃ p ys, xs = [.ref p] ∧ (SqL X.K H p ys ∨ SqT X.K H p ys) ∧ Q (.int ys.length) H) (bor A) (dat tInt) fun xs : List α => ok (xs.length : Int) := fun H D a va fa c Q le ⟨_, p, vs, z, h1, h2⟩ hg k => by
    cases hg
    refine ⟨p, vs, by rw [z], .inl h1, k _ H D [] (Ext.refl le) ⟨rfl, show V.int _ = V.int _ from by rw [h2.length]⟩ .nil⟩
theorem E_lenL {A : Dt α} {ra : M (List α)} {p : Pos} (hm : X.mg "len" = none) (ha : ET X G Γ a (bor A) ra) (hg : Gl X "len" := by rfl) (hs1 : starEach [a] X.env = [(false, eval a X.env)] := by rfl) :
    ET X G Γ (.Call (.Name "len" p) [a] [] pos) (dat tInt) (ra.bind fun x => ok (x.length : Int)) := E_bi1 call_len_seq cb_len nxok hm PySem.boot_len ha hg (by decide) (by decide) hs1 rfl
theorem E_lenT {A : Dt α} {ra : M (List α)} {p : Pos} (hm : X.mg "len" = none) (ha : ET X G Γ a (dat (tRow A)) ra) (hg : Gl X "len" := by rfl) (hs1 : starEach [a] X.env = [(false, eval a X.env)] := by rfl) :
    ET X G Γ (.Call (.Name "len" p) [a] [] pos) (dat tInt) (ra.bind fun x => ok (x.length : Int)) := E_bi1 (A := dat (tRow A)) (R := dat tInt) call_len_seq (fun H D a va fa c Q le ⟨_, p, vs, z, h1, h2⟩ hg k => by
    cases hg
    refine ⟨p, vs, by rw [z], .inr (SqT.mono le h1), k _ H D [] (Ext.refl le) ⟨rfl, show V.int _ = V.int _ from by rw [h2.length]⟩ .nil⟩) nxok hm PySem.boot_len ha hg (by decide) (by decide) hs1 rfl

/-! ### subscripts -/
def pget {α : Type} (xs : List α) (i : Int) : M α := match atI xs i with
  | some x => ok x
  | none => stuck
theorem pget_ok {xs : List α} {i : Int} {x : α} (h : pget xs i = ok x) : atI xs i = some x := by
  unfold pget at h
  cases e : atI xs i with
  | none => rw [e] at h; cases h
  | some y => rw [e] at h; cases h; rfl
theorem pget_nx {α : Type} : NX2 (pget (α := α)) := fun xs i e h => by
  unfold pget at h
  cases z : atI xs i with
  | none => rw [z] at h; cases h
  | some y => rw [z] at h; cases h
theorem atI_paired {F : α → L2.V → Prop} {xs : List α} {vs : List L2.V} {i : Int} {x : α} (h : Paired F xs vs) (e : atI xs i = some x) : ∃ v, atI vs i = some v ∧ F x v := by
  unfold atI at e ⊢
  rw [h.length] at e
  cases q : ixN vs.length i with
  | none => rw [q] at e; cases e
  | some j =>
    rw [q] at e
    have e' : xs[j]? = some x := e
    show ∃ v, vs[j]? = some v ∧ F x v
    clear e q
    induction h generalizing j with
    | nil => simp at e'
    | cons r t ih =>
      cases j with
      | zero => simp at e'; subst e'; exact ⟨_, by simp, r⟩
      | succ j => simpa using ih j (by simpa using e')
theorem E_ix {r2 : R2} {A : Rp α} {B : Rp β} {R : Rp γ} {g : α → β → M γ} {ra : M α} {rb : M β} (hi : IxR X r2) (hs : Op2 X.K r2 A B R g) (nx : NX2 g) (ha : ET X G Γ a A ra) (hb : ET X G Γ b B rb) (hp : PlainIx b) : ET X G Γ (.Subscript a b pos) R (ra.bind fun x => rb.bind fun y => g x y) := fun w =>
  (pe_ix hi (ha w) (hb w) hp).weak fun σ H Q ⟨H0, D0, D, os, hr, x, hx, hp⟩ =>
    seqEE hr hx hp fun i H1 D1 fp v _ hx1 e1 r1 f1 hr1 hp1 => seqEE hr1 hx1 hp1 fun j H2 D2 fp2 v2 _ hx2 e2 r2 f2 hr2 hp2 => by
      cases x with
      | ok c => exact hs H2 D2 i j v v2 fp fp2 c Q hr2.le (A.mono e2.h e2.d r1) r2 hx2 hp2
      | ex e => exact absurd hx2 (nx _ _ _)
theorem E_ixL {A : Dt α} {ra : M (List α)} {rb : M Int} (ha : ET X G Γ a (bor A) ra) (hb : ET X G Γ b (dat tInt) rb) (hp : PlainIx b := by intro _ _; rfl) : ET X G Γ (.Subscript a b pos) (dat A) (ra.bind fun x => rb.bind fun y => pget x y) :=
  E_ix (A := bor A) (B := dat tInt) (R := dat A) ix_list (fun H D xs i va vb fa fb c Q le ⟨_, p, vs, z, h1, h2⟩ ⟨_, z2⟩ hg k => by
    obtain ⟨v, q1, q2⟩ := atI_paired h2 (pget_ok hg)
    exact ⟨p, vs, i, v, z, z2, h1, q1, k v H D [] (Ext.refl le) ⟨rfl, q2⟩ .nil⟩) pget_nx ha hb hp
theorem E_ixT {A : Dt α} {ra : M (List α)} {rb : M Int} (ha : ET X G Γ a (dat (tRow A)) ra) (hb : ET X G Γ b (dat tInt) rb) (hp : PlainIx b := by intro _ _; rfl) : ET X G Γ (.Subscript a b pos) (dat A) (ra.bind fun x => rb.bind fun y => pget x y) :=
  E_ix (A := dat (tRow A)) (B := dat tInt) (R := dat A) ix_tup (fun H D xs i va vb fa fb c Q le ⟨_, p, vs, z, h1, h2⟩ ⟨_, z2⟩ hg k => by
    obtain ⟨v, q1, q2⟩ := atI_paired h2 (pget_ok hg)
    exact ⟨p, vs, i, v, z, z2, SqT.mono le h1, q1, k v H D [] (Ext.refl le) ⟨rfl, q2⟩ .nil⟩) pget_nx ha hb hp
/-- a record's places -/
theorem E_fst {A : Dt α} {B : Dt β} {ra : M (α × β)} (ha : ET X G Γ a (dat (tRec2 A B)) ra) (hb : ET X G Γ b (dat tInt) (ok 0)) (hp : PlainIx b := by intro _ _; rfl) : ET X G Γ (.Subscript a b pos) (dat A) (ra.bind fun x => ok x.1) :=
  E_ix (A := dat (tRec2 A B)) (R := dat A) (g := fun x (_ : Int) => ok x.1) (B := ⟨fun _ _ _ fp x v => fp = [] ∧ x = 0 ∧ v = .int 0, fun _ _ h => h⟩) ix_tup (fun H D xs i va vb fa fb c Q le ⟨_, p, v1, v2, z, h1, h2, h3⟩ ⟨_, _, z2⟩ hg k => by
    cases hg
    exact ⟨p, _, 0, v1, z, z2, SqT.mono le h1, rfl, k v1 H D [] (Ext.refl le) ⟨rfl, h2⟩ .nil⟩) nxok2 ha (fun w => (hb w).weak fun σ H Q ⟨H0, D0, D, os, hr, x, hx, hp⟩ => ⟨H0, D0, D, os, hr, x, hx, by
      cases hx
      exact fun v H' D' fp e ⟨h1, h2⟩ f => hp v H' D' fp e ⟨h1, rfl, h2⟩ f⟩) hp
theorem E_snd {A : Dt α} {B : Dt β} {ra : M (α × β)} (ha : ET X G Γ a (dat (tRec2 A B)) ra) (hb : ET X G Γ b (dat tInt) (ok 1)) (hp : PlainIx b := by intro _ _; rfl) : ET X G Γ (.Subscript a b pos) (dat B) (ra.bind fun x => ok x.2) :=
  E_ix (A := dat (tRec2 A B)) (R := dat B) (g := fun x (_ : Int) => ok x.2) (B := ⟨fun _ _ _ fp x v => fp = [] ∧ x = 1 ∧ v = .int 1, fun _ _ h => h⟩) ix_tup (fun H D xs i va vb fa fb c Q le ⟨_, p, v1, v2, z, h1, h2, h3⟩ ⟨_, _, z2⟩ hg k => by
    cases hg
    exact ⟨p, _, 1, v2, z, z2, SqT.mono le h1, rfl, k v2 H D [] (Ext.refl le) ⟨rfl, h3⟩ .nil⟩) nxok2 ha (fun w => (hb w).weak fun σ H Q ⟨H0, D0, D, os, hr, x, hx, hp⟩ => ⟨H0, D0, D, os, hr, x, hx, by
      cases hx
      exact fun v H' D' fp e ⟨h1, h2⟩ f => hp v H' D' fp e ⟨h1, rfl, h2⟩ f⟩) hp

/-! ### displays -/
theorem Same.upd {H : Hp} {p : Addr} {o : HO} (n : H p = none) : Le H (upd H p o) := fun b x e => by rw [upd_ne (ne_of_none e n)]; exact e
/-- items of one type, from the left -/
def tAs {α γ : Type} (K : Fr) (mg : Str → Option Value) (G : Ctx) (Γ : Vw) (A : Dt α) (k : List α → M γ) (r : M γ) : TA := fun σ H Q =>
  ∃ H0 D0 D os x, ∃ P : Hp → Hp → Rs γ → Prop, Rel K H0 D0 Γ σ H D os ∧ r = some x ∧ P H D x ∧ (∀ H1 D1, Ext H D H1 D1 → ∀ H2 D2, Ext H1 D1 H2 D2 → P H1 D1 x → P H2 D2 x) ∧
    (∀ e, x = .ex e → ∀ c d H' D' os', Rel K H0 D0 G.Vx σ H' D' os' → XRep K mg D' e c d → G.W c d σ H') ∧
    ∀ t vs H' D', k t = some x → Ext H D H' D' → Paired (A.rep K D') t vs → P H' D' x → Q vs H'
def IR (X : Cx) (G : Ctx) (Γ : Vw) (es : List Expr) {α γ : Type} (A : Dt α) (k : List α → M γ) (r : M γ) : Prop := Wf X G → PA X es (tAs X.K X.mg G Γ A k r)
theorem I_nil {A : Dt α} {k : List α → M γ} : IR X G Γ [] A k (k []) := fun w =>
  pa_nil.weak fun σ H Q ⟨H0, D0, D, os, x, P, hr, hx, hp, hg, he, q⟩ => q [] [] H D hx (Ext.refl hr.le) .nil hp
theorem I_cons {A : Dt α} {k : List α → M γ} {ra : M α} {rr : α → M γ} (ha : ET X G Γ a (dat A) ra) (hb : ∀ x, IR X G Γ es A (fun t => k (x :: t)) (rr x))
    (hs : starEach (a :: es) X.env = (false, eval a X.env) :: starEach es X.env := by rfl) : IR X G Γ (a :: es) A k (ra.bind rr) := fun w => by
  have hb' : PA X es (fun σ H Q => ∃ x, tAs X.K X.mg G Γ A (fun t => k (x :: t)) (rr x) σ H Q) := ⟨fun pos pins s σ H Q I ⟨x, h⟩ => (hb x w).run pos pins s σ H Q I h⟩
  refine (pa_cons (ha w) hb' hs).weak fun σ H Q ⟨H0, D0, D, os, x, P, hr, hx, hp, hg, he, q⟩ => ?_
  rcases bind_some hx with ⟨y, rfl, hf⟩ | ⟨e, rfl, rfl⟩
  · refine ⟨H0, D0, D, os, hr, _, rfl, fun v H1 D1 fp e1 r1 f1 => ⟨y, H0, D0, D1, os, x, P, hr.grow e1, hf, hg _ _ (Ext.refl hr.le) _ _ e1 hp, fun H2 D2 e2 => hg H2 D2 (e1.trans e2), he, fun t vs H' D' hk e2 ht p2 => ?_⟩⟩
    exact q (y :: t) (v :: vs) H' D' hk (e1.trans e2) (.cons (A.mono e2.d r1.2) ht) p2
  · exact ⟨H0, D0, D, os, hr, _, rfl, he _ rfl⟩
def psz {α : Type} (xs : List α) : M (List α) := grd (xs.length ≤ sizeLine) (ok xs)
theorem E_lst {A : Dt α} {r : M (List α)} (h : IR X G Γ es A psz r) : ET X G Γ (.List es pos) (own A) r := fun w =>
  (pe_lst (h w)).weak fun σ H Q ⟨H0, D0, D, os, hr, x, hx, hp⟩ =>
    ⟨H0, D0, D, os, x, fun H1 D1 x => ePost X.K X.mg G H0 D0 σ H1 D1 (own A) Q x, hr, hx, hp, fun _ _ _ _ _ e2 h => h.grow e2, fun e z => by subst z; exact hp, fun t vs H1 D1 hk e1 ht hp1 => by
      cases x with
      | ex e => exact absurd hk (grd_nx (fun z => nomatch z))
      | ok y =>
        obtain ⟨h1, h2⟩ := grd_ok hk
        cases h2
        refine ⟨by rw [← ht.length]; exact h1, fun p np => ?_⟩
        have nd : D1 p = none := e1.dh.free np
        exact hp1 (.ref p) _ D1 [p] (Ext.fresh e1.dh np) ⟨p, vs, rfl, rfl, upd_same, ht⟩ ⟨by simp, fun q hq => by
          have : q = p := by simpa using hq
          subst this
          exact ⟨np, nd, by rw [upd_same]; simp⟩⟩⟩
theorem E_row {A : Dt α} {r : M (List α)} {x1} (h : IR X G Γ es A psz r) : ET X G Γ (.Tuple es x1 pos) (dat (tRow A)) r := fun w =>
  (pe_tup (h w)).weak fun σ H Q ⟨H0, D0, D, os, hr, x, hx, hp⟩ =>
    ⟨H0, D0, D, os, x, fun H1 D1 x => ePost X.K X.mg G H0 D0 σ H1 D1 (dat (tRow A)) Q x, hr, hx, hp, fun _ _ _ _ _ e2 h => h.grow e2, fun e z => by subst z; exact hp, fun t vs H1 D1 hk e1 ht hp1 => by
      cases x with
      | ex e => exact absurd hk (grd_nx (fun z => nomatch z))
      | ok y =>
        obtain ⟨h1, h2⟩ := grd_ok hk
        cases h2
        refine ⟨by rw [← ht.length]; exact h1, fun p np => ?_⟩
        have nd : D1 p = none := e1.dh.free np
        exact hp1 (.ref p) _ _ [] (Ext.laid e1.dh np) ⟨rfl, p, vs, rfl, .inl (.inl upd_same), A.monos (Same.upd nd) ht⟩ .nil⟩
theorem E_rec2 {A : Dt α} {B : Dt β} {r : M (α × β)} {x1} (h : AR X G Γ es (.cons A (.cons B .nil)) (fun t => ok (t.1, t.2.1)) r) : ET X G Γ (.Tuple es x1 pos) (dat (tRec2 A B)) r := fun w =>
  (pe_tup (h w)).weak fun σ H Q ⟨H0, D0, D, os, hr, x, hx, hp⟩ =>
    ⟨H0, D0, D, os, x, fun H1 D1 x => ePost X.K X.mg G H0 D0 σ H1 D1 (dat (tRec2 A B)) Q x, hr, hx, hp, fun _ _ _ _ _ e2 h => h.grow e2, fun e z => by subst z; exact hp, fun t vs H1 D1 hk e1 ht hp1 => by
      cases hk
      obtain ⟨v1, r1, rfl, t1, v2, r2, rfl, t2, e0⟩ := ht
      cases (show r2 = [] from e0)
      refine ⟨(by decide : 2 ≤ sizeLine), fun p np => ?_⟩
      have nd : D1 p = none := e1.dh.free np
      exact hp1 (.ref p) _ _ [] (Ext.laid e1.dh np) ⟨rfl, p, v1, v2, rfl, .inl (.inl upd_same), A.mono (Same.upd nd) t1, B.mono (Same.upd nd) t2⟩ .nil⟩
theorem E_rec3 {A : Dt α} {B : Dt β} {C : Dt γ} {r : M (α × β × γ)} {x1} (h : AR X G Γ es (.cons A (.cons B (.cons C .nil))) (fun t => ok (t.1, t.2.1, t.2.2.1)) r) : ET X G Γ (.Tuple es x1 pos) (dat (tRec3 A B C)) r := fun w =>
  (pe_tup (h w)).weak fun σ H Q ⟨H0, D0, D, os, hr, x, hx, hp⟩ =>
    ⟨H0, D0, D, os, x, fun H1 D1 x => ePost X.K X.mg G H0 D0 σ H1 D1 (dat (tRec3 A B C)) Q x, hr, hx, hp, fun _ _ _ _ _ e2 h => h.grow e2, fun e z => by subst z; exact hp, fun t vs H1 D1 hk e1 ht hp1 => by
      cases hk
      obtain ⟨v1, r1, rfl, t1, v2, r2, rfl, t2, v3, r3, rfl, t3, e0⟩ := ht
      cases (show r3 = [] from e0)
      refine ⟨(by decide : 3 ≤ sizeLine), fun p np => ?_⟩
      have nd : D1 p = none := e1.dh.free np
      exact hp1 (.ref p) _ _ [] (Ext.laid e1.dh np) ⟨rfl, p, v1, v2, v3, rfl, .inl (.inl upd_same), A.mono (Same.upd nd) t1, B.mono (Same.upd nd) t2, C.mono (Same.upd nd) t3⟩ .nil⟩
end
end T

set_option maxRecDepth 100000
set_option maxHeartbeats 4000000
namespace T
open PySem PySem.Spec PyProof.Rows L2

/-! ### statements -/
inductive Dest (ρ : Type) where
  | nx (Γ : Vw) | rt (a : ρ) | bk (Γ : Vw) | ct (Γ : Vw)
inductive Fl (C ρ : Type) where
  | nx (c : C) | rt (a : ρ)
def ZF {C ρ : Type} (Γ : C → Vw) : Fl C ρ → Dest ρ
  | .nx c => .nx (Γ c)
  | .rt a => .rt a
def dPost {ρ : Type} (K : Fr) (H0 D0 : Hp) (R : Rp ρ) (D : Ends) : Dest ρ → Prop
  | .nx Γ => ∀ σ' H' D' os', Rel K H0 D0 Γ σ' H' D' os' → D.nx σ' H'
  | .bk Γ => ∀ σ' H' D' os', Rel K H0 D0 Γ σ' H' D' os' → D.bk σ' H'
  | .ct Γ => ∀ σ' H' D' os', Rel K H0 D0 Γ σ' H' D' os' → D.ct σ' H'
  | .rt a => ∀ v H' D' fp, Ext H0 D0 H' D' → R.rep K H' D' fp a v → Frs H0 D' H' fp → D.rt v H'
def jPost {θ ρ : Type} (K : Fr) (mg : Str → Option Value) (G : Ctx) (H0 D0 : Hp) (R : Rp ρ) (Z : θ → Dest ρ) (D : Ends) : Rs θ → Prop
  | .ok t => dPost K H0 D0 R D (Z t)
  | .ex e => ∀ c d σ' H' D' os', Rel K H0 D0 G.Vx σ' H' D' os' → XRep K mg D' e c d → G.W c d σ' H'
theorem jPost.ok {θ ρ : Type} {K : Fr} {mg : Str → Option Value} {G : Ctx} {H0 D0 : Hp} {R : Rp ρ} {Z : θ → Dest ρ} {D : Ends} {t : θ} {z : Dest ρ} (h : jPost K mg G H0 D0 R Z D (.ok t)) (e : Z t = z) : dPost K H0 D0 R D z := e ▸ h
theorem jPost.of {θ ρ : Type} {K : Fr} {mg : Str → Option Value} {G : Ctx} {H0 D0 : Hp} {R : Rp ρ} {Z : θ → Dest ρ} {D : Ends} {t : θ} {z : Dest ρ} (e : Z t = z) (h : dPost K H0 D0 R D z) : jPost K mg G H0 D0 R Z D (.ok t) := by subst e; exact h
def tJ {θ ρ : Type} (K : Fr) (mg : Str → Option Value) (G : Ctx) (Γ : Vw) (R : Rp ρ) (Z : θ → Dest ρ) (r : M θ) : TS := fun E σ H =>
  ∃ H0 D0 D os, Rel K H0 D0 Γ σ H D os ∧ ∃ x, r = some x ∧ jPost K mg G H0 D0 R Z E x
def JB {θ ρ : Type} (X : Cx) (G : Ctx) (Γ : Vw) (b : List Stmt) (R : Rp ρ) (Z : θ → Dest ρ) (r : M θ) : Prop := Wf X G → PSs X b (tJ X.K X.mg G Γ R Z r)
def JS {θ ρ : Type} (X : Cx) (G : Ctx) (Γ : Vw) (b : Stmt) (R : Rp ρ) (Z : θ → Dest ρ) (r : M θ) : Prop := Wf X G → PS X b (tJ X.K X.mg G Γ R Z r)

theorem _root_.L2.PS.weakI {X : Cx} {e : Stmt} {t t' : TS} (h : PS X e t) (w : ∀ D σ H, σ.length = X.N.length → t' D σ H → t D σ H) : PS X e t' := ⟨fun pins s σ H D I hq => h.run pins s σ H D I (w _ _ _ I.len hq)⟩

section
variable {K : Fr} {mg : Str → Option Value} {G : Ctx} {H0 D0 H D H1 D1 : Hp} {Γ : Vw} {σ : L2.St} {os : List Addr} {α : Type}
theorem Rel.rebase (r : Rel K H0 D0 Γ σ H D os) : Rel K H0 D Γ σ H D os := ⟨⟨r.ext.h, Same.refl _, r.ext.dh, fun _ h _ => h⟩, r.own, r.nd, r.hold⟩
theorem Rel.unbase {Di : Hp} (d : Le D0 Di) (o : ∀ p, D0 p = none → H0 p ≠ none → Di p = none) (r : Rel K H0 Di Γ σ H D os) : Rel K H0 D0 Γ σ H D os :=
  ⟨⟨r.ext.h, d.trans r.ext.d, r.ext.dh, fun p h1 h2 => r.ext.out p (o p h1 h2) h2⟩, r.own, r.nd, r.hold⟩
theorem jPost.rebase {θ ρ : Type} {R : Rp ρ} {Z : θ → Dest ρ} {E : Ends} {x : Rs θ} {Di : Hp} (d : Le D0 Di) (o : ∀ p, D0 p = none → H0 p ≠ none → Di p = none) (h : jPost K mg G H0 D0 R Z E x) : jPost K mg G H0 Di R Z E x := by
  cases x with
  | ex e => exact fun c d' σ' H' D' os' r => h c d' σ' H' D' os' (r.unbase d o)
  | ok t =>
    have h := h.ok rfl
    refine jPost.of rfl ?_
    cases z : Z t with
    | nx Γ => rw [z] at h; exact fun σ' H' D' os' r => h σ' H' D' os' (r.unbase d o)
    | bk Γ => rw [z] at h; exact fun σ' H' D' os' r => h σ' H' D' os' (r.unbase d o)
    | ct Γ => rw [z] at h; exact fun σ' H' D' os' r => h σ' H' D' os' (r.unbase d o)
    | rt a => rw [z] at h; exact fun v H' D' fp e => h v H' D' fp ⟨e.h, d.trans e.d, e.dh, fun p h1 h2 => e.out p (o p h1 h2) h2⟩
/-- an entry is put -/
theorem Rel.put (r : Rel K H0 D0 Γ σ H D os) {i : Nat} {R : Rp α} {st : Stable R} {a : α} {v : L2.V} {fp : List Addr} {Hb : Hp} (hi : i < σ.length) (hl : Le H0 Hb) (hne : ∀ p ∈ os, Hb p ≠ none) (h : R.rep K H D fp a v) (f : Frs Hb D H fp) :
    ∃ os', Rel K H0 D0 (T.put ⟨i, α, R, st, a⟩ Γ) (σ.set i (some v)) H D os' := by
  obtain ⟨os', q1, q2, q3⟩ := r.hold.rmv i r.nd
  refine ⟨fp ++ os', r.ext, fun p hp => ?_, List.nodup_append.mpr ⟨f.1, q2, fun a ha b hb e => ?_⟩, ⟨fp, os', rfl, ⟨v, ?_, h⟩, q1.set⟩⟩
  · rcases List.mem_append.mp hp with z | z
    · exact ⟨hl.free (f.2 p z).1, (f.2 p z).2⟩
    · exact r.own p (q3 p z)
  · subst e; exact hne a (q3 a hb) (f.2 a ha).1
  · show (σ.set i (some v))[i]? = _
    rw [List.getElem?_set_self hi]
end

section
variable {X : Cx} {G : Ctx} {Γ : Vw} {α β γ δ τ ρ θ C C' : Type} {a b c e : Expr} {pos : Pos} {st : Stmt} {rest A B : List Stmt} {R : Rp ρ} {Z : θ → Dest ρ}

theorem J_nil (is : List Nat) (t : θ) (hz : Z t = .nx (pick is Γ) := by rfl) : JB X G Γ [] R Z (ok t) := fun w =>
  pss_nil.weak fun E σ H ⟨H0, D0, D, os, hr, x, hx, hp⟩ => by
    cases hx
    have hp := hp.ok hz
    obtain ⟨os', q⟩ := hr.pick is
    exact hp σ H D os' q
theorem J_last {r : M θ} (h : JS X G Γ st R Z r) : JB X G Γ [st] R Z r := fun w => pss_one (h w)
theorem J_cons {Γ1 : C → Vw} {r1 : M C} {k : C → M θ} (h1 : JS X G Γ st R (fun c => .nx (Γ1 c)) r1) (h2 : ∀ c, JB X G (Γ1 c) rest R Z (k c)) : JB X G Γ (st :: rest) R Z (r1.bind k) := fun w => by
  have h2' : PSs X rest (fun E σ H => ∃ c, tJ X.K X.mg G (Γ1 c) R Z (k c) E σ H) := ⟨fun pins s σ H D I ⟨c, h⟩ => (h2 c w).run pins s σ H D I h⟩
  refine (pss_cons (h1 w) h2').weak fun E σ H ⟨H0, D0, D, os, hr, x, hx, hp⟩ => ?_
  rcases bind_some hx with ⟨c, rfl, hf⟩ | ⟨e, rfl, rfl⟩
  · exact ⟨H0, D0, D, os, hr, _, rfl, fun σ' H' D' os' r => ⟨c, H0, D0, D', os', r, x, hf, hp⟩⟩
  · exact ⟨H0, D0, D, os, hr, _, rfl, hp⟩
def sq {C ρ θ : Type} (r : M (Fl C ρ)) (k : C → M θ) (ι : ρ → θ) : M θ := r.bind fun f => match f with
  | .nx c => k c
  | .rt a => ok (ι a)
theorem J_fl {Γ1 : C → Vw} {r1 : M (Fl C ρ)} {k : C → M θ} (ι : ρ → θ) (h1 : JS X G Γ st R (ZF Γ1) r1) (h2 : ∀ c, JB X G (Γ1 c) rest R Z (k c)) (hι : ∀ a, Z (ι a) = .rt a := by intro _; rfl) : JB X G Γ (st :: rest) R Z (sq r1 k ι) := fun w => by
  have h2' : PSs X rest (fun E σ H => ∃ c, tJ X.K X.mg G (Γ1 c) R Z (k c) E σ H) := ⟨fun pins s σ H D I ⟨c, h⟩ => (h2 c w).run pins s σ H D I h⟩
  refine (pss_cons (h1 w) h2').weak fun E σ H ⟨H0, D0, D, os, hr, x, hx, hp⟩ => ?_
  rcases bind_some hx with ⟨c, rfl, hf⟩ | ⟨e, rfl, rfl⟩
  · cases c with
    | nx c => exact ⟨H0, D0, D, os, hr, _, rfl, fun σ' H' D' os' r => ⟨c, H0, D0, D', os', r, x, hf, hp⟩⟩
    | rt a =>
      cases (show ok (ι a) = some x from hf)
      have hp := hp.ok (hι _)
      exact ⟨H0, D0, D, os, hr, _, rfl, hp⟩
  · exact ⟨H0, D0, D, os, hr, _, rfl, hp⟩
theorem S_ret {re : M ρ} (ι : ρ → θ) (he : ET X G Γ e R re) (hι : ∀ a, Z (ι a) = .rt a := by intro _; rfl) : JS X G Γ (.Return (some e) pos) R Z (re.bind fun a => ok (ι a)) := fun w =>
  (ps_ret (he w)).weak fun E σ H ⟨H0, D0, D, os, hr, x, hx, hp⟩ => by
    rcases bind_some hx with ⟨c, rfl, hf⟩ | ⟨e, rfl, rfl⟩
    · cases hf
      have hp := hp.ok (hι _)
      exact ⟨H0, D0, D, os, hr, _, rfl, fun v H' D' fp e r f => hp v H' D' fp (hr.ext.trans e) r (f.back hr.ext.h)⟩
    · exact ⟨H0, D0, D, os, hr, _, rfl, fun c d H' D' os' r q => hp c d σ H' D' os' r q⟩
theorem S_retT {re : M ρ} (he : ET X G Γ e R re) : JS X G Γ (.Return (some e) pos) R (fun a => .rt a) re := by
  have := S_ret (Z := fun a => Dest.rt a) (pos := pos) (fun a => a) he
  rw [show (re.bind fun a => ok a) = re from bind_ret re] at this
  exact this
/-- a list of one's own is handed back -/
theorem S_retO (i : Nat) {x : Str} {A : Dt α} {val : List α} {Z : θ → Dest (List α)} {p : Pos} (ι : List α → θ) (hf : find i Γ = some (eO i A val) := by rfl) (hN : X.N[i]? = some x := by rfl) (hv : Vis X.env.scope x := by first | exact Or.inl rfl | exact Or.inr (Or.inl rfl) | exact Or.inr (Or.inr rfl))
    (hι : ∀ a, Z (ι a) = .rt a := by intro _; rfl) (hd : (x == ("__debug__" : Str)) = false := by decide) (hcd : (x == ("__classdict__" : Str)) = false := by decide) : JS X G Γ (.Return (some (.Name x p)) pos) (own A) Z (ok (ι val)) := fun w =>
  (ps_ret (pe_var hN hv hd hcd)).weak fun E σ H ⟨H0, D0, D, os, hr, x, hx, hp⟩ => by
    cases hx
    have hp := hp.ok (hι _)
    obtain ⟨fp, os', v, q1, q2, _, q4, q5⟩ := hr.hold.find hf hr.nd
    refine ⟨v, q1, hp v H D fp hr.ext q2 ⟨(List.nodup_append.mp q4).1, fun p h => hr.own p (q5 p (List.mem_append_left _ h))⟩⟩
theorem S_retN {Z : θ → Dest Unit} (t : θ) (hz : Z t = .rt () := by rfl) : JS X G Γ (.Return none pos) (dat tNone) Z (ok t) := fun w =>
  ps_retN.weak fun E σ H ⟨H0, D0, D, os, hr, x, hx, hp⟩ => by
    cases hx
    have hp := hp.ok hz
    exact hp .non H D [] hr.ext ⟨rfl, rfl⟩ .nil
theorem S_pass (is : List Nat) (t : θ) (hz : Z t = .nx (pick is Γ) := by rfl) : JS X G Γ (.Pass pos) R Z (ok t) := fun w =>
  ps_pass.weak fun E σ H ⟨H0, D0, D, os, hr, x, hx, hp⟩ => by
    cases hx
    have hp := hp.ok hz
    obtain ⟨os', q⟩ := hr.pick is
    exact hp σ H D os' q
theorem S_doc {s : Str} {j : Nat} {p : Pos} (t : θ) (hz : Z t = .nx Γ := by rfl) : JS X G Γ (.Expr (.Constant (.str s) j p) pos) R Z (ok t) := fun w =>
  ps_doc.weak fun E σ H ⟨H0, D0, D, os, hr, x, hx, hp⟩ => by
    cases hx
    have hp := hp.ok hz
    exact hp σ H D os hr
theorem S_if {rc : M Bool} {ra rb : M θ} (hc : BT X G Γ c rc) (hA : JB X G Γ A R Z ra) (hB : JB X G Γ B R Z rb) : JS X G Γ (.If c A B pos) R Z (rc.bind fun b => if b = true then ra else rb) := fun w =>
  (ps_if (hc w) (hA w) (hB w)).weak fun E σ H ⟨H0, D0, D, os, hr, x, hx, hp⟩ => by
    refine seqB (P := fun _ _ x => jPost X.K X.mg G H0 D0 R Z E x) hr hx hp (fun e h => fun c d => h c d σ) (fun _ _ _ h => h) fun z H1 D1 _ hx1 e1 hr1 hp1 => ?_
    cases z with
    | true => exact ⟨H0, D0, D1, os, hr1, x, hx1, hp1⟩
    | false => exact ⟨H0, D0, D1, os, hr1, x, hx1, hp1⟩
/-- if c: .. return; then the rest -/
theorem J_ifr {rc : M Bool} {ra : M ρ} {rk : M θ} (ι : ρ → θ) (hc : BT X G Γ c rc) (hA : JB X G Γ A R (fun a => .rt a) ra) (hk : JB X G Γ rest R Z rk) (hι : ∀ a, Z (ι a) = .rt a := by intro _; rfl) :
    JB X G Γ (.If c A [] pos :: rest) R Z (rc.bind fun b => if b = true then ra.bind (fun a => ok (ι a)) else rk) := fun w =>
  (pss_cons (ps_if (hc w) (hA w) pss_nil) (hk w)).weak fun E σ H ⟨H0, D0, D, os, hr, x, hx, hp⟩ => by
    refine seqB (P := fun _ _ x => jPost X.K X.mg G H0 D0 R Z E x) hr hx hp (fun e h => fun c d => h c d σ) (fun _ _ _ h => h) fun z H1 D1 _ hx1 e1 hr1 hp1 => ?_
    cases z with
    | true =>
      have hx2 : ra.bind (fun a => ok (ι a)) = some x := hx1
      rcases bind_some hx2 with ⟨y, rfl, hf⟩ | ⟨e, rfl, rfl⟩
      · cases hf
        have hp1 := hp1.ok (hι _)
        exact ⟨H0, D0, D1, os, hr1, _, rfl, hp1⟩
      · exact ⟨H0, D0, D1, os, hr1, _, rfl, hp1⟩
    | false => exact ⟨H0, D0, D1, os, hr1, x, hx1, hp1⟩
theorem J_ifrT {rc : M Bool} {ra rk : M ρ} (hc : BT X G Γ c rc) (hA : JB X G Γ A R (fun a => .rt a) ra) (hk : JB X G Γ rest R (fun a => .rt a) rk) :
    JB X G Γ (.If c A [] pos :: rest) R (fun a => .rt a) (rc.bind fun b => if b = true then ra else rk) := by
  have := J_ifr (Z := fun a => Dest.rt a) (pos := pos) (fun a => a) hc hA hk
  rw [show (ra.bind fun a => ok a) = ra from bind_ret ra] at this
  exact this
/-- x = e -/
theorem S_setR (i : Nat) {x : Str} {Q : Rp α} (sQ : Stable Q) {re : M α} {p : Pos} (he : ET X G Γ e Q re) (hN : X.N[i]? = some x := by rfl) (hx : Loc X.env.scope x := by first | exact Or.inl rfl | exact Or.inr rfl) (hs : swapsWith e (some (.Name x p)) pos.line X.env = pure false := by rfl)
    (hf : X.fn x = true ∨ X.env.scope.names.lookup x = some .local := by first | exact Or.inl rfl | exact Or.inr rfl) :
    JS X G Γ (.Assign [.Name x p] e pos) R (fun a => .nx (put ⟨i, α, Q, sQ, a⟩ Γ)) re := fun w =>
  (ps_set w.nd hN hx (he w) hs hf).weakI fun E σ H hl ⟨H0, D0, D, os, hr, x, hx, hp⟩ => by
    refine ⟨H0, D0, D, os, hr, x, hx, ?_⟩
    cases x with
    | ex e => exact fun c d => hp c d σ
    | ok t =>
      intro v H' D' fp e r f
      have hi : i < σ.length := by rw [hl]; exact (List.getElem?_eq_some_iff.mp hN).1
      obtain ⟨os', q⟩ := (hr.grow e).put (st := sQ) hi hr.ext.h (fun p h => (hr.own p h).2.2) r f
      exact hp _ H' D' os' q
theorem S_set (i : Nat) {x : Str} {A : Dt α} {re : M α} {p : Pos} (he : ET X G Γ e (dat A) re) (hN : X.N[i]? = some x := by rfl) (hx : Loc X.env.scope x := by first | exact Or.inl rfl | exact Or.inr rfl) (hs : swapsWith e (some (.Name x p)) pos.line X.env = pure false := by rfl)
    (hf : X.fn x = true ∨ X.env.scope.names.lookup x = some .local := by first | exact Or.inl rfl | exact Or.inr rfl) :
    JS X G Γ (.Assign [.Name x p] e pos) R (fun a => .nx (put (eD i A a) Γ)) re := S_setR i (dat_st A) he hN hx hs hf
theorem S_setO (i : Nat) {x : Str} {A : Dt α} {re : M (List α)} {p : Pos} (he : ET X G Γ e (own A) re) (hN : X.N[i]? = some x := by rfl) (hx : Loc X.env.scope x := by first | exact Or.inl rfl | exact Or.inr rfl) (hs : swapsWith e (some (.Name x p)) pos.line X.env = pure false := by rfl)
    (hf : X.fn x = true ∨ X.env.scope.names.lookup x = some .local := by first | exact Or.inl rfl | exact Or.inr rfl) :
    JS X G Γ (.Assign [.Name x p] e pos) R (fun a => .nx (put (eO i A a) Γ)) re := S_setR i (own_st A) he hN hx hs hf
theorem S_eq {r r' : M θ} (h : JS X G Γ st R Z r) (e : r = r') : JS X G Γ st R Z r' := e ▸ h
theorem J_eq {r r' : M θ} (h : JB X G Γ A R Z r) (e : r = r') : JB X G Γ A R Z r' := e ▸ h
/-- x op= e, on numbers -/
def Ip2 (X : Cx) (op : Operator) (g : Int → Int → M Int) : Prop := ∃ t : TIp, PIp X op t ∧ ∀ (H : Hp) i j c Q, g i j = ok c → Q (.int c) H → t (.int i) (.int j) H Q
theorem S_aug (i : Nat) {x : Str} {op : Operator} {g : Int → Int → M Int} {val : Int} {re : M Int} {p : Pos} (ho : Ip2 X op g) (nx : NX2 g) (he : ET X G Γ e (dat tInt) re) (hv : find i Γ = some (eD i tInt val) := by rfl) (hN : X.N[i]? = some x := by rfl) (hx : Loc X.env.scope x := by first | exact Or.inl rfl | exact Or.inr rfl)
    (hf : X.fn x = true ∨ X.env.scope.names.lookup x = some .local := by first | exact Or.inl rfl | exact Or.inr rfl) :
    JS X G Γ (.AugAssign (.Name x p) op e pos) R (fun a => .nx (put (eD i tInt a) Γ)) (re.bind fun y => g val y) := fun w => by
  obtain ⟨t, ht, hg⟩ := ho
  refine (ps_aug w.nd hN hx (he w) ht hf).weakI fun E σ H hl ⟨H0, D0, D, os, hr, x, hx, hp⟩ => ?_
  obtain ⟨fp, os', v, q1, ⟨_, q2⟩, _, _, _⟩ := hr.hold.find hv hr.nd
  refine ⟨v, q1, ?_⟩
  cases (show v = V.int val from q2)
  have hi : i < σ.length := by rw [hl]; exact (List.getElem?_eq_some_iff.mp hN).1
  refine seqE (P := fun _ _ x => jPost X.K X.mg G H0 D0 R (fun a => Dest.nx (put (eD i tInt a) Γ)) E x) hr hx hp (fun e h => fun c d => h c d σ) (fun _ _ _ h => h) fun z H1 D1 fp v _ hx1 e1 r1 f1 hr1 hp1 => ?_
  cases x with
  | ex e => exact absurd hx1 (nx _ _ _)
  | ok c =>
    obtain ⟨_, z1⟩ := r1
    cases (show v = V.int z from z1)
    refine hg H1 val z c _ hx1 ?_
    obtain ⟨os', q⟩ := hr1.put (i := i) (R := dat tInt) (st := dat_st tInt) (a := c) (v := .int c) (fp := []) hi hr1.ext.h (fun p h => (hr1.own p h).2.2) ⟨rfl, rfl⟩ .nil
    exact hp1 _ H1 D1 os' q
/-- an expression alone -/
theorem S_expr {Q : Rp α} {re : M α} (he : ET X G Γ e Q re) (hs : swapsWith e none pos.line X.env = pure false := by rfl) : JS X G Γ (.Expr e pos) R (fun _ : Unit => .nx Γ) (re.bind fun _ => ok ()) := fun w =>
  (ps_expr (he w) hs).weak fun E σ H ⟨H0, D0, D, os, hr, x, hx, hp⟩ =>
    seqE (P := fun _ _ x => jPost X.K X.mg G H0 D0 R (fun _ : Unit => Dest.nx Γ) E x) hr hx hp (fun e h => fun c d => h c d σ) (fun _ _ _ h => h) fun z H1 D1 fp v _ hx1 e1 r1 f1 hr1 hp1 => by
      cases hx1
      exact hp1 σ H1 D1 os hr1

/-! ### a list of one's own is changed -/
theorem Rel.upd {K : Fr} {H0 D0 H D : Hp} {σ : L2.St} {os : List Addr} {i : Nat} {A : Dt α} {val new : List α} {vs' : List L2.V} {p : Addr} {vs : List L2.V} (r : Rel K H0 D0 Γ σ H D os) (hf : find i Γ = some (eO i A val)) (hσ : σ[i]? = some (some (.ref p))) (hp : H p = some (.lst vs)) (ho : p ∈ os)
    (hn : Paired (A.rep K D) new vs') (q : ∃ os', Hold K H D σ (T.rmv i Γ) os' ∧ (p :: os').Nodup ∧ ∀ x ∈ p :: os', x ∈ os) : ∃ os', Rel K H0 D0 (T.put (eO i A new) Γ) σ (L2.upd H p (.lst vs')) D os' := by
  obtain ⟨os', q1, q2, q3⟩ := q
  obtain ⟨h1, h2, h3⟩ := r.own p ho
  have agree : ∀ x ∈ os', L2.upd H p (.lst vs') x = H x := fun x hx => upd_ne (fun z => (List.nodup_cons.mp q2).1 (z ▸ hx))
  refine ⟨p :: os', ⟨fun b o z => ?_, r.ext.d, fun b o z => ?_, r.ext.out⟩, fun x hx => ?_, q2, ⟨[p], os', rfl, ⟨.ref p, hσ, p, vs', rfl, rfl, upd_same, hn⟩, q1.agree agree (Same.refl _)⟩⟩
  · rw [upd_ne (ne_of_none z h1)]; exact r.ext.h b o z
  · rw [upd_ne (ne_of_none z h2)]; exact r.ext.dh b o z
  · obtain ⟨m1, m2, m3⟩ := r.own x (q3 x hx)
    refine ⟨m1, m2, ?_⟩
    by_cases z : x = p
    · subst z; rw [upd_same]; simp
    · rw [upd_ne z]; exact m3
def papp {α : Type} (xs : List α) (x : α) : M (List α) := grd (xs.length < sizeLine) (ok (xs ++ [x]))
theorem Paired.snoc {F : α → L2.V → Prop} {x : α} {v : L2.V} (h : F x v) : ∀ {xs : List α} {vs : List L2.V}, Paired F xs vs → Paired F (xs ++ [x]) (vs ++ [v])
  | _, _, .nil => .cons h .nil
  | _, _, .cons r t => .cons r (Paired.snoc h t)
/-- the address of an own list *)-/
theorem Rel.mut {K : Fr} {H0 D0 H D : Hp} {σ : L2.St} {os : List Addr} {i : Nat} {A : Dt α} {val : List α} (r : Rel K H0 D0 Γ σ H D os) (hf : find i Γ = some (eO i A val)) :
    ∃ p vs, σ[i]? = some (some (.ref p)) ∧ H p = some (.lst vs) ∧ Paired (A.rep K D) val vs ∧ ∀ H1 D1, Ext H D H1 D1 → H1 p = some (.lst vs) ∧ Paired (A.rep K D1) val vs ∧ ∀ new vs', Paired (A.rep K D1) new vs' → ∃ os', Rel K H0 D0 (T.put (eO i A new) Γ) σ (L2.upd H1 p (.lst vs')) D1 os' := by
  obtain ⟨fp, os', v, q1, ⟨p, vs, rfl, rfl, r3, r4⟩, q3, q4, q5⟩ := r.hold.find hf r.nd
  refine ⟨p, vs, q1, r3, r4, fun H1 D1 e => ⟨e.h _ _ r3, A.monos e.d r4, fun new vs' h => ?_⟩⟩
  refine (r.grow e).upd hf q1 (e.h _ _ r3) (q5 p (List.mem_append_left _ List.mem_cons_self)) h ⟨os', q3.agree (fun x hx => e.h.eq (r.own x (q5 x (List.mem_append_right _ hx))).2.2) e.d, q4, q5⟩
theorem S_append (i : Nat) {x : Str} {A : Dt α} {val : List α} {re : M α} {p p2 ep : Pos} (he : ET X G Γ e (dat A) re) (hv : find i Γ = some (eO i A val) := by rfl) (hN : X.N[i]? = some x := by rfl) (hvis : Vis X.env.scope x := by first | exact Or.inl rfl | exact Or.inr (Or.inl rfl) | exact Or.inr (Or.inr rfl))
    (hs1 : starEach [e] X.env = [(false, eval e X.env)] := by rfl) (hs : swapsWith (.Call (.Attribute (.Name x p) "append" p2) [e] [] ep) none pos.line X.env = pure false := by rfl)
    (hpl : (backTo ep (starEach [] X.env)).any (·.1) = false := by rfl) (hd : (x == ("__debug__" : Str)) = false := by decide) (hcd : (x == ("__classdict__" : Str)) = false := by decide)
    (hbase : attributeBase (.Name x p) "append" X.env (eval (.Name x p) X.env) = eval (.Name x p) X.env := by rfl)
    (hfew : ((backTo ep (starEach [e] X.env)).all (fun x => !x.1) && (backToKw ep (keywordEach [] X.env)).all (fun x => x.1.isSome)
      && decide (([e] : List Expr).length + ([] : List Keyword).length + (if ([] : List Keyword).isEmpty then 0 else 1) < 30)) = true := by rfl)
    (hline : (p2.endLine == ep.line) = true := by rfl) :
    JS X G Γ (.Expr (.Call (.Attribute (.Name x p) "append" p2) [e] [] ep) pos) R (fun a => .nx (put (eO i A a) Γ)) (re.bind fun y => papp val y) := fun w =>
  (ps_expr (pe_bm PySem.F.plainAttrs_list PySem.F.slot_list_append PySem.F.type_list_append mt_append (pe_var hN hvis hd hcd) (pa_cons (he w) pa_nil hs1) hbase hfew hline hs1 hpl) hs).weak fun E σ H ⟨H0, D0, D, os, hr, x, hx, hp⟩ => by
    obtain ⟨q, vs, h1, h2, h3, h4⟩ := hr.mut hv
    refine ⟨.ref q, h1, .inl ⟨rfl, vs, SqL.of h2⟩, ?_⟩
    refine seqE (P := fun _ _ x => jPost X.K X.mg G H0 D0 R (fun a => Dest.nx (put (eO i A a) Γ)) E x) hr hx hp (fun e h => fun c d => h c d σ) (fun _ _ _ h => h) fun z H1 D1 fp v _ hx1 e1 r1 f1 hr1 hp1 => ?_
    cases x with
    | ex e => exact absurd hx1 (grd_nx (fun z => nomatch z))
    | ok c =>
      obtain ⟨g1, g2⟩ := grd_ok hx1
      cases g2
      obtain ⟨m1, m2, m3⟩ := h4 H1 D1 e1
      refine ⟨q, vs, v, rfl, rfl, m1, by rw [← h3.length]; exact g1, ?_⟩
      obtain ⟨os', qq⟩ := m3 (val ++ [z]) (vs ++ [v]) (Paired.snoc r1.2 m2)
      exact hp1 σ _ D1 os' qq
def pset {α : Type} (xs : List α) (i : Int) (x : α) : M (List α) := match ixN xs.length i with
  | some j => ok (xs.set j x)
  | none => stuck
theorem Paired.set {F : α → L2.V → Prop} {x : α} {v : L2.V} (h : F x v) : ∀ {xs : List α} {vs : List L2.V} (j : Nat), Paired F xs vs → Paired F (xs.set j x) (vs.set j v)
  | _, _, _, .nil => .nil
  | _, _, 0, .cons r t => .cons h t
  | _, _, j + 1, .cons r t => .cons r (Paired.set h j t)
/-- xs[j] = e -/
theorem S_store (i : Nat) {x : Str} {A : Dt α} {val : List α} {re : M α} {rj : M Int} {j : Expr} {p sp : Pos} (he : ET X G Γ e (dat A) re) (hj : ET X G Γ j (dat tInt) rj) (hv : find i Γ = some (eO i A val) := by rfl) (hN : X.N[i]? = some x := by rfl)
    (hvis : Vis X.env.scope x := by first | exact Or.inl rfl | exact Or.inr (Or.inl rfl) | exact Or.inr (Or.inr rfl)) (hd : (x == ("__debug__" : Str)) = false := by decide) (hcd : (x == ("__classdict__" : Str)) = false := by decide)
    (ha : ∀ v, assign (.Subscript (.Name x p) j sp) X.env v = (do
      let ov ← holding [v] (eval (.Name x p) X.env)
      let iv ← holding [v, ov] (eval j X.env)
      standAt sp
      holding [v, ov, iv] (setItem ov iv v)
      release [v, ov, iv] []) := by intro _; rfl)
    (hs : swapsWithSole [.Subscript (.Name x p) j sp] e pos.line X.env = pure false := by rfl) (hw : swappedStores [.Subscript (.Name x p) j sp] e X.env = pure none := by rfl)
    (h1 : (assignEach [.Subscript (.Name x p) j sp] X.env).map (·.2) = [assign (.Subscript (.Name x p) j sp) X.env] := by rfl) :
    JS X G Γ (.Assign [.Subscript (.Name x p) j sp] e pos) R (fun a => .nx (put (eO i A a) Γ)) (re.bind fun y => rj.bind fun k => pset val k y) := fun w =>
  (ps_asg (he w) (pg_sub (pe_var hN hvis hd hcd) (hj w) set_list ha) hs hw h1).weak fun E σ H ⟨H0, D0, D, os, hr, x, hx, hp⟩ => by
    obtain ⟨q, vs, h1, h2, h3, h4⟩ := hr.mut hv
    refine seqE (P := fun _ _ x => jPost X.K X.mg G H0 D0 R (fun a => Dest.nx (put (eO i A a) Γ)) E x) hr hx hp (fun e h => fun c d => h c d σ) (fun _ _ _ h => h) fun z H1 D1 fp v _ hx1 e1 r1 f1 hr1 hp1 => ?_
    refine ⟨.ref q, h1, ?_⟩
    refine seqE (P := fun _ _ x => jPost X.K X.mg G H0 D0 R (fun a => Dest.nx (put (eO i A a) Γ)) E x) hr1 hx1 hp1 (fun e h => fun c d => h c d σ) (fun _ _ _ h => h) fun k H2 D2 fp2 v2 _ hx2 e2 r2 f2 hr2 hp2 => ?_
    unfold pset at hx2
    cases g : ixN val.length k with
    | none => rw [g] at hx2; cases hx2
    | some j' =>
      rw [g] at hx2
      cases hx2
      obtain ⟨m1, m2, m3⟩ := h4 H2 D2 (e1.trans e2)
      refine ⟨q, vs, k, j', rfl, r2.2, m1, by rw [← h3.length]; exact g, ?_⟩
      obtain ⟨os', qq⟩ := m3 (val.set j' z) (vs.set j' v) (Paired.set (A.mono e2.d r1.2) j' m2)
      exact hp2 σ _ D2 os' qq
end
end T

set_option maxRecDepth 100000
set_option maxHeartbeats 4000000
namespace T
open PySem PySem.Spec PyProof.Rows L2

/-! ### what is walked -/
def ItOk {α : Type} (K : Fr) (J : It) (D1 : Hp) (A : Dt α) (xs : List α) : Prop := ∀ i H D, Le D1 D → Le D H →
  (∀ x, xs[i]? = some x → J.go i H ∧ ∀ v H', J.yld i H v H' → ∃ D', Ext H D H' D' ∧ A.rep K D' x v) ∧ (xs.length ≤ i → J.stop i H)
def tI {α : Type} (K : Fr) (mg : Str → Option Value) (G : Ctx) (Γ : Vw) (A : Dt α) (r : M (List α)) : TI := fun σ H R =>
  ∃ H0 D0 D os, Rel K H0 D0 Γ σ H D os ∧ ∃ x, r = some x ∧ match x with
    | .ok xs => ∀ J H' D', Ext H D H' D' → ItOk K J D' A xs → R J H'
    | .ex e => ∀ c d H' D' os', Rel K H0 D0 G.Vx σ H' D' os' → XRep K mg D' e c d → G.W c d σ H'
def ITR (X : Cx) (G : Ctx) (Γ : Vw) (tg it : Expr) {α : Type} (A : Dt α) (r : M (List α)) : Prop := Wf X G → PI X tg it (tI X.K X.mg G Γ A r)
theorem _root_.L2.PI.weak {X : Cx} {tg e : Expr} {t t' : TI} (h : PI X tg e t) (w : ∀ σ H Q, t' σ H Q → t σ H Q) : PI X tg e t' := ⟨fun pins s σ H Q I hq => h.run pins s σ H Q I (w _ _ _ hq)⟩
theorem Paired.get {α : Type} {F : α → L2.V → Prop} : ∀ {xs : List α} {vs : List L2.V} {i : Nat} {x : α}, Paired F xs vs → xs[i]? = some x → ∃ v, vs[i]? = some v ∧ F x v
  | _, _, _, _, .nil, e => by simp at e
  | _, _, 0, _, .cons r _, e => by simp at e; subst e; exact ⟨_, by simp, r⟩
  | _, _, i + 1, x, .cons _ t, e => by
    obtain ⟨v, h1, h2⟩ := Paired.get (i := i) (x := x) t (by simpa using e)
    exact ⟨v, by simpa using h1, h2⟩
theorem SqL.mono {K : Fr} {H H' : Hp} {a : Addr} {xs : List L2.V} (e : Le H H') (h : SqL K H a xs) : SqL K H' a xs := Same.seq e h

theorem itok_list {α : Type} {K : Fr} {D1 : Hp} {A : Dt α} {xs : List α} {p : Addr} {vs : List L2.V} (h1 : SqL K D1 p vs) (h2 : Paired (A.rep K D1) xs vs) : ItOk K (Itl K p) D1 A xs := fun i H D e1 e2 => by
  have hS : SqL K H p vs := SqL.mono (e1.trans e2) h1
  refine ⟨fun x hx => ?_, fun hl => ⟨vs, hS, by rw [← h2.length]; exact hl⟩⟩
  obtain ⟨v, q1, q2⟩ := Paired.get h2 hx
  refine ⟨⟨vs, v, hS, q1⟩, fun u H' ⟨e, y⟩ => ?_⟩
  subst e
  have : some v = some u := q1.symm.trans (y vs hS)
  cases this
  exact ⟨D, Ext.refl e2, A.mono e1 q2⟩
theorem itok_tup {α : Type} {K : Fr} {D1 : Hp} {A : Dt α} {xs : List α} {p : Addr} {vs : List L2.V} (h1 : SqT K D1 p vs) (h2 : Paired (A.rep K D1) xs vs) : ItOk K (Itt K p) D1 A xs := fun i H D e1 e2 => by
  have hS : SqT K H p vs := SqT.mono (e1.trans e2) h1
  refine ⟨fun x hx => ?_, fun hl => ⟨vs, hS, by rw [← h2.length]; exact hl⟩⟩
  obtain ⟨v, q1, q2⟩ := Paired.get h2 hx
  refine ⟨⟨vs, v, hS, q1⟩, fun u H' ⟨e, y⟩ => ?_⟩
  subst e
  have : some v = some u := q1.symm.trans (y vs hS)
  cases this
  exact ⟨D, Ext.refl e2, A.mono e1 q2⟩
/-- lo, lo + 1, .. n numbers -/
def rangeL (lo : Int) (n : Nat) : List Int := (List.range n).map fun i : Nat => lo + (i : Int)
theorem rangeL_get (lo : Int) (n i : Nat) : (rangeL lo n)[i]? = if i < n then some (lo + (i : Int)) else none := by
  unfold rangeL
  by_cases h : i < n
  · simp [h]
  · simp [h]
theorem rangeL_len (lo : Int) (n : Nat) : (rangeL lo n).length = n := by simp [rangeL]
theorem itok_range {K : Fr} {D1 : Hp} {lo : Int} {n : Nat} : ItOk K (Itr lo n) D1 tInt (rangeL lo n) := fun i H D e1 e2 => by
  refine ⟨fun x hx => ?_, fun hl => by rw [rangeL_len] at hl; exact hl⟩
  rw [rangeL_get] at hx
  by_cases h : i < n
  · rw [if_pos h] at hx
    cases hx
    refine ⟨h, fun u H' ⟨e, y⟩ => ?_⟩
    subst e
    exact ⟨D, Ext.refl e2, y⟩
  · rw [if_neg h] at hx; cases hx

section
variable {X : Cx} {G : Ctx} {Γ : Vw} {α β γ δ τ ρ θ C C' : Type} {a b c e it tg : Expr} {pos : Pos} {st : Stmt} {rest B : List Stmt} {R : Rp ρ} {Z : θ → Dest ρ}
theorem I_list {A : Dt α} {r : M (List α)} (h : ET X G Γ it (dat (tLst A)) r) : ITR X G Γ tg it A r := fun w =>
  (pi_list (h w)).weak fun σ H Q ⟨H0, D0, D, os, hr, x, hx, hp⟩ => ⟨H0, D0, D, os, hr, x, hx, by
    cases x with
    | ex e => exact hp
    | ok xs =>
      intro v H' D' fp e ⟨_, p, vs, r1, r2, r3⟩ f
      exact ⟨p, r1, ⟨vs, SqL.of (e.dh _ _ r2)⟩, hp _ H' D' e (itok_list (SqL.of r2) r3)⟩⟩
theorem I_scr {r : M (List Int)} (h : ET X G Γ it (dat tScr) r) : ITR X G Γ tg it tInt r := fun w =>
  (pi_list (h w)).weak fun σ H Q ⟨H0, D0, D, os, hr, x, hx, hp⟩ => ⟨H0, D0, D, os, hr, x, hx, by
    cases x with
    | ex e => exact hp
    | ok xs =>
      intro v H' D' fp e ⟨_, p, r1, r2⟩ f
      exact ⟨p, r1, ⟨_, SqL.mono e.dh r2⟩, hp _ H' D' e (itok_list r2 Paired.ints)⟩⟩
theorem I_tup {A : Dt α} {r : M (List α)} (h : ET X G Γ it (dat (tRow A)) r) : ITR X G Γ tg it A r := fun w =>
  (pi_tup (h w)).weak fun σ H Q ⟨H0, D0, D, os, hr, x, hx, hp⟩ => ⟨H0, D0, D, os, hr, x, hx, by
    cases x with
    | ex e => exact hp
    | ok xs =>
      intro v H' D' fp e ⟨_, p, vs, r1, r2, r3⟩ f
      exact ⟨p, r1, ⟨vs, SqT.mono e.dh r2⟩, hp _ H' D' e (itok_tup r2 r3)⟩⟩
def prange (j : Int) : M (List Int) := grd (j < 2 ^ 62) (ok (rangeL 0 j.toNat))
def prange2 (i j : Int) : M (List Int) := grd (-(2 ^ 62) ≤ i ∧ i < 2 ^ 62 ∧ -(2 ^ 62) ≤ j ∧ j < 2 ^ 62) (ok (rangeL i (j - i).toNat))
theorem I_range {ra : M Int} {p : Pos} (hm : X.mg "range" = none) (ha : ET X G Γ a (dat tInt) ra) (hg : Gl X "range" := by rfl) (hs : starEach [a] X.env = [(false, eval a X.env)] := by rfl) : ITR X G Γ tg (.Call (.Name "range" p) [a] [] pos) tInt (ra.bind fun j => grd (-(2 ^ 62) ≤ j) (prange j)) := fun w =>
  (pi_range1 hg hm (pa_cons (ha w) pa_nil hs) hs).weak fun σ H Q ⟨H0, D0, D, os, hr, x, hx, hp⟩ => by
    rcases bind_some hx with ⟨j, rfl, hf⟩ | ⟨e, rfl, rfl⟩
    · obtain ⟨g1, hf⟩ := grd_some hf
      obtain ⟨g2, hf⟩ := grd_some hf
      cases hf
      exact ⟨H0, D0, D, os, hr, _, rfl, fun v H' D' fp e ⟨_, r1⟩ f => ⟨j, by rw [show v = V.int j from r1], g1, g2, hp _ H' D' e itok_range⟩⟩
    · exact ⟨H0, D0, D, os, hr, _, rfl, hp⟩
theorem I_range2 {ra rb : M Int} {p : Pos} (hm : X.mg "range" = none) (ha : ET X G Γ a (dat tInt) ra) (hb : ET X G Γ b (dat tInt) rb) (hg : Gl X "range" := by rfl) (hs : starEach [a, b] X.env = [(false, eval a X.env), (false, eval b X.env)] := by rfl)
    (hs2 : starEach [b] X.env = [(false, eval b X.env)] := by rfl) : ITR X G Γ tg (.Call (.Name "range" p) [a, b] [] pos) tInt (ra.bind fun i => rb.bind fun j => prange2 i j) := fun w =>
  (pi_range2 hg hm (pa_cons (ha w) (pa_cons (hb w) pa_nil hs2) (by rw [hs, hs2])) hs hs2).weak fun σ H Q ⟨H0, D0, D, os, hr, x, hx, hp⟩ => by
    rcases bind_some hx with ⟨i, rfl, hf⟩ | ⟨e, rfl, rfl⟩
    · rcases bind_some hf with ⟨j, rfl, hf⟩ | ⟨e, rfl, rfl⟩
      · obtain ⟨g1, hf⟩ := grd_some hf
        cases hf
        exact ⟨H0, D0, D, os, hr, _, rfl, fun v H' D' fp e ⟨_, r1⟩ f => ⟨H0, D0, D', os, hr.grow e, _, rfl, fun v2 H2 D2 fp2 e2 ⟨_, r2⟩ f2 =>
          ⟨i, j, by rw [show v = V.int i from r1, show v2 = V.int j from r2], g1, hp _ H2 D2 (e.trans e2) itok_range⟩⟩⟩
      · exact ⟨H0, D0, D, os, hr, _, rfl, fun v H' D' fp e ⟨_, r1⟩ f => ⟨H0, D0, D', os, hr.grow e, _, rfl, hp⟩⟩
    · exact ⟨H0, D0, D, os, hr, _, rfl, hp⟩
theorem I_eq {A : Dt α} {r r' : M (List α)} (h : ITR X G Γ tg it A r) (e : r = r') : ITR X G Γ tg it A r' := e ▸ h

/-! ### targets -/
structure GT (X : Cx) (tg : Expr) (sl : List Nat) {α : Type} (A : Dt α) (u : α → Vw → Vw) (g : TG) : Prop where
  ex : X.N.Nodup → X.calm = true → PG X tg g ∧ ∀ (H0 D0 H D : Hp) (Γ : Vw) (σ : L2.St) (os : List Addr) (x : α) (v : L2.V) (Q : L2.St → Hp → Prop), σ.length = X.N.length → Rel X.K H0 D0 Γ σ H D os → A.rep X.K D x v →
    (∀ σ' os', σ'.length = X.N.length → (∀ vs, (∀ i ∈ sl, i ∈ vs) → wipe σ' vs = wipe σ vs) → Rel X.K H0 D0 (u x Γ) σ' H D os' → Q σ' H) → g v σ H Q
theorem wipe_set {σ : L2.St} {i : Nat} {w : Option L2.V} : ∀ {vs : List Nat}, i ∈ vs → wipe (σ.set i w) vs = wipe σ vs
  | [], h => nomatch h
  | v :: vs, h => by
    unfold wipe
    by_cases e : i ∈ vs
    · rw [wipe_set e]
    · have hv : i = v := by
        rcases List.mem_cons.mp h with z | z
        · exact z
        · exact absurd z e
      subst hv
      have : ∀ {us : List Nat}, i ∉ us → wipe (σ.set i w) us = (wipe σ us).set i w := fun {us} hu => by
        induction us with
        | nil => rfl
        | cons u us ih =>
          unfold wipe
          rw [ih (fun z => hu (List.mem_cons_of_mem _ z)), List.set_comm]
          exact fun z => hu (by rw [z]; exact List.mem_cons_self)
      rw [this e, List.set_set]
theorem wipe_wipe {σ : L2.St} {vs : List Nat} : ∀ (us : List Nat), (∀ i ∈ us, i ∈ vs) → wipe (wipe σ us) vs = wipe σ vs
  | [], _ => rfl
  | u :: us, h => by
    show wipe ((wipe σ us).set u none) vs = _
    rw [wipe_set (h u List.mem_cons_self), wipe_wipe us fun i hi => h i (List.mem_cons_of_mem _ hi)]
theorem G_name (i : Nat) {x : Str} {A : Dt α} {p : Pos} (hN : X.N[i]? = some x := by rfl) (hx : Loc X.env.scope x := by first | exact Or.inl rfl | exact Or.inr rfl)
    (hf : X.fn x = true ∨ X.env.scope.names.lookup x = some .local := by first | exact Or.inl rfl | exact Or.inr rfl) : GT X (.Name x p) [i] A (fun a Γ => put (eD i A a) Γ) (gName i) := ⟨fun nd _ => ⟨pg_name nd hN hx hf, fun H0 D0 H D Γ σ os x v Q hl hr h k => by
    have hi : i < σ.length := by rw [hl]; exact (List.getElem?_eq_some_iff.mp hN).1
    obtain ⟨os', q⟩ := hr.put (i := i) (R := dat A) (st := dat_st A) (a := x) (v := v) (fp := []) hi hr.ext.h (fun p h => (hr.own p h).2.2) ⟨rfl, h⟩ .nil
    exact k _ os' (by rw [List.length_set]; exact hl) (fun vs h => wipe_set (h i (by simp))) q⟩⟩
theorem G_rec2 {t1 t2 : Expr} {s1 s2 : List Nat} {A : Dt α} {B : Dt β} {u1 : α → Vw → Vw} {u2 : β → Vw → Vw} {g1 g2 : TG} {k : Nat} {p : Pos} (h1 : GT X t1 s1 A u1 g1) (h2 : GT X t2 s2 B u2 g2)
    (hs1 : (assignEach [t1, t2] X.env).map (·.2) = assign t1 X.env :: (assignEach [t2] X.env).map (·.2) := by rfl) (hs2 : (assignEach [t2] X.env).map (·.2) = assign t2 X.env :: (assignEach [] X.env).map (·.2) := by rfl)
    (hn : (assignEach [t1, t2] X.env).length = 2 := by rfl) (hst : (assignEach [t1, t2] X.env).findIdx? (·.1) = none := by rfl) : GT X (.Tuple [t1, t2] k p) (s1 ++ s2) (tRec2 A B) (fun x Γ => u2 x.2 (u1 x.1 Γ)) (gTup X.K 2 (gCons g1 (gCons g2 gNil))) := ⟨fun nd hc => by
    obtain ⟨p1, q1⟩ := h1.ex nd hc
    obtain ⟨p2, q2⟩ := h2.ex nd hc
    refine ⟨pg_tup hc (pgs_cons p1 (pgs_cons p2 pgs_nil hs2) hs1) hn hst, fun H0 D0 H D Γ σ os x v Q hl hr ⟨p, v1, v2, r1, r2, r3, r4⟩ k => ?_⟩
    refine ⟨p, [v1, v2], r1, SqT.mono hr.le r2, rfl, v1, [v2], rfl, q1 H0 D0 H D Γ σ os x.1 v1 _ hl hr r3 fun σ' os' hl' hw' hr' => ⟨v2, [], rfl, q2 H0 D0 H D _ σ' os' x.2 v2 _ hl' hr' r4 fun σ2 os2 hl2 hw2 hr2 => ⟨rfl, k σ2 os2 hl2 (fun vs h => ?_) hr2⟩⟩⟩
    rw [hw2 vs fun i hi => h i (List.mem_append_right _ hi), hw' vs fun i hi => h i (List.mem_append_left _ hi)]⟩
theorem G_rec3 {t1 t2 t3 : Expr} {s1 s2 s3 : List Nat} {A : Dt α} {B : Dt β} {C : Dt γ} {u1 : α → Vw → Vw} {u2 : β → Vw → Vw} {u3 : γ → Vw → Vw} {g1 g2 g3 : TG} {k : Nat} {p : Pos} (h1 : GT X t1 s1 A u1 g1) (h2 : GT X t2 s2 B u2 g2) (h3 : GT X t3 s3 C u3 g3)
    (hs1 : (assignEach [t1, t2, t3] X.env).map (·.2) = assign t1 X.env :: (assignEach [t2, t3] X.env).map (·.2) := by rfl) (hs2 : (assignEach [t2, t3] X.env).map (·.2) = assign t2 X.env :: (assignEach [t3] X.env).map (·.2) := by rfl) (hs3 : (assignEach [t3] X.env).map (·.2) = assign t3 X.env :: (assignEach [] X.env).map (·.2) := by rfl)
    (hn : (assignEach [t1, t2, t3] X.env).length = 3 := by rfl) (hst : (assignEach [t1, t2, t3] X.env).findIdx? (·.1) = none := by rfl) : GT X (.Tuple [t1, t2, t3] k p) (s1 ++ s2 ++ s3) (tRec3 A B C) (fun x Γ => u3 x.2.2 (u2 x.2.1 (u1 x.1 Γ))) (gTup X.K 3 (gCons g1 (gCons g2 (gCons g3 gNil)))) := ⟨fun nd hc => by
    obtain ⟨p1, q1⟩ := h1.ex nd hc
    obtain ⟨p2, q2⟩ := h2.ex nd hc
    obtain ⟨p3, q3⟩ := h3.ex nd hc
    refine ⟨pg_tup hc (pgs_cons p1 (pgs_cons p2 (pgs_cons p3 pgs_nil hs3) hs2) hs1) hn hst, fun H0 D0 H D Γ σ os x v Q hl hr ⟨p, v1, v2, v3, r1, r2, r3, r4, r5⟩ k => ?_⟩
    refine ⟨p, [v1, v2, v3], r1, SqT.mono hr.le r2, rfl, v1, [v2, v3], rfl, q1 H0 D0 H D Γ σ os x.1 v1 _ hl hr r3 fun σ' os' hl' hw' hr' => ⟨v2, [v3], rfl, q2 H0 D0 H D _ σ' os' x.2.1 v2 _ hl' hr' r4 fun σ2 os2 hl2 hw2 hr2 => ⟨v3, [], rfl, q3 H0 D0 H D _ σ2 os2 x.2.2 v3 _ hl2 hr2 r5 fun σ3 os3 hl3 hw3 hr3 => ⟨rfl, k σ3 os3 hl3 (fun vs h => ?_) hr3⟩⟩⟩⟩
    rw [hw3 vs fun i hi => h i (List.mem_append_right _ hi), hw2 vs fun i hi => h i (List.mem_append_left _ (List.mem_append_right _ hi)), hw' vs fun i hi => h i (List.mem_append_left _ (List.mem_append_left _ hi))]⟩
/-- target = e -/
theorem S_unpack {sl : List Nat} {A : Dt α} {u : α → Vw → Vw} {re : M α} {g : TG} (hg : GT X tg sl A u g) (he : ET X G Γ e (dat A) re) (hc : G.c = true := by rfl) (hs : swapsWithSole [tg] e pos.line X.env = pure false := by rfl) (hw : swappedStores [tg] e X.env = pure none := by rfl)
    (h1 : (assignEach [tg] X.env).map (·.2) = [assign tg X.env] := by rfl) : JS X G Γ (.Assign [tg] e pos) R (fun a => .nx (u a Γ)) re := fun w => by
  obtain ⟨p, q⟩ := hg.ex w.nd (w.calm hc)
  refine (ps_asg (he w) p hs hw h1).weakI fun E σ H hl ⟨H0, D0, D, os, hr, x, hx, hp⟩ => ⟨H0, D0, D, os, hr, x, hx, ?_⟩
  cases x with
  | ex e => exact fun c d => hp c d σ
  | ok t => exact fun v H' D' fp e r f => q H0 D0 H' D' Γ σ os t v _ hl (hr.grow e) r.2 fun σ' os' hl' _ hr' => hp σ' H' D' os' hr'
/-- a, b = e1, e2 -/
theorem S_par (i j : Nat) {x y : Str} {A : Dt α} {B : Dt β} {ra : M α} {rb : M β} {px py pt : Pos} {kt k2 pt2} (hij : i ≠ j) (ha : ET X G Γ a (dat A) ra) (hb : ET X G Γ b (dat B) rb) (hc : G.c = true := by rfl) (hi : X.N[i]? = some x := by rfl) (hj : X.N[j]? = some y := by rfl)
    (hx : X.env.scope.names.lookup x = some .local := by rfl) (hy : X.env.scope.names.lookup y = some .local := by rfl)
    (hw : swappedStores [.Tuple [.Name x px, .Name y py] kt pt] (.Tuple [a, b] k2 pt2) X.env = pure (some [x, y]) := by rfl) (hs : swapsWithSole [.Tuple [.Name x px, .Name y py] kt pt] (.Tuple [a, b] k2 pt2) pos.line X.env = pure false := by rfl)
    (hs1 : starEach [a, b] X.env = (false, eval a X.env) :: starEach [b] X.env := by rfl) (hs2 : starEach [b] X.env = [(false, eval b X.env)] := by rfl) :
    JS X G Γ (.Assign [.Tuple [.Name x px, .Name y py] kt pt] (.Tuple [a, b] k2 pt2) pos) R (fun t : α × β => .nx (put (eD j B t.2) (put (eD i A t.1) Γ))) (ra.bind fun u => rb.bind fun v => ok (u, v)) := fun w =>
  (ps_par (w.calm hc) w.nd hi hj hij hx hy (pa_cons (ha w) (pa_cons (hb w) pa_nil hs2) hs1) hw hs).weakI fun E σ H hl ⟨H0, D0, D, os, hr, x, hx, hp⟩ => by
    refine seqE (P := fun _ _ x => jPost X.K X.mg G H0 D0 R (fun t : α × β => Dest.nx (put (eD j B t.2) (put (eD i A t.1) Γ))) E x) hr hx hp (fun e h => fun c d => h c d σ) (fun _ _ _ h => h) fun z H1 D1 fp v _ hx1 e1 r1 f1 hr1 hp1 => ?_
    refine seqE (P := fun _ _ x => jPost X.K X.mg G H0 D0 R (fun t : α × β => Dest.nx (put (eD j B t.2) (put (eD i A t.1) Γ))) E x) hr1 hx1 hp1 (fun e h => fun c d => h c d σ) (fun _ _ _ h => h) fun z2 H2 D2 fp2 v2 _ hx2 e2 r2 f2 hr2 hp2 => ?_
    cases hx2
    have hi' : i < σ.length := by rw [hl]; exact (List.getElem?_eq_some_iff.mp hi).1
    have hj' : j < σ.length := by rw [hl]; exact (List.getElem?_eq_some_iff.mp hj).1
    refine ⟨v, v2, rfl, ?_⟩
    obtain ⟨os1, q1⟩ := hr2.put (i := i) (R := dat A) (st := dat_st A) (a := z) (v := v) (fp := []) hi' hr2.ext.h (fun p h => (hr2.own p h).2.2) ⟨rfl, A.mono e2.d r1.2⟩ .nil
    obtain ⟨os2, q2⟩ := q1.put (i := j) (R := dat B) (st := dat_st B) (a := z2) (v := v2) (fp := []) (by rw [List.length_set]; exact hj') q1.ext.h (fun p h => (q1.own p h).2.2) ⟨rfl, r2.2⟩ .nil
    exact hp2 _ H2 D2 os2 q2

/-! ### for -/
def loopM {α C : Type} (f : C → α → M C) : C → List α → M C
  | c, [] => ok c
  | c, x :: xs => (f c x).bind fun c' => loopM f c' xs
def flk {C ρ : Type} (k : C → M (Fl C ρ)) : Fl C ρ → M (Fl C ρ)
  | .nx c => k c
  | .rt a => ok (.rt a)
def loopF {α C ρ : Type} (f : C → α → M (Fl C ρ)) : C → List α → M (Fl C ρ)
  | c, [] => ok (.nx c)
  | c, x :: xs => (f c x).bind (flk fun c' => loopF f c' xs)
theorem _root_.L2.PS.weakI2 {X : Cx} {e : Stmt} {t t' : TS} (h : PS X e t) (w : ∀ D σ H, σ.length = X.N.length → t' D σ H → t D σ H) : PS X e t' := ⟨fun pins s σ H D I hq => h.run pins s σ H D I (w _ _ _ I.len hq)⟩
/-- the frame's slots, known within a body too -/
theorem _root_.L2.PSs.withLen {X : Cx} {b : List Stmt} {t : TS} (h : PSs X b t) : PSs X b (fun E σ H => σ.length = X.N.length → t E σ H) := ⟨fun pins s σ H D I hq => h.run pins s σ H D I (hq I.len)⟩
theorem PG.withLen {X : Cx} {tg : Expr} {g : TG} (h : PG X tg g) : PG X tg (fun v σ H Q => σ.length = X.N.length → g v σ H fun σ' H' => σ'.length = X.N.length → Q σ' H') := ⟨fun pins s σ H v u Q I r hq =>
  thn (h.run pins s σ H v u _ I r (hq I.len)) fun _ s' ⟨σ', H', I', q⟩ => ⟨σ', H', I', q I'.len⟩⟩
theorem S_forF {sl : List Nat} {A : Dt α} {u : α → Vw → Vw} {Γl : C → Vw} {ri : M (List α)} {b : C → α → M (Fl C ρ)} (is : List Nat) (c0 : C) {g : TG} (hi : ITR X G Γ tg it A ri) (hg : GT X tg sl A u g) (hb : ∀ c x, JB X G (u x (Γl c)) B R (ZF Γl) (b c x)) (hc : G.c = true := by rfl) (h0 : pick is Γ = Γl c0 := by rfl)
    (hs : ∀ x, foldedSetIterable it X.env x = pure x := by intro _; rfl) : JS X G Γ (.For tg it B [] pos) R (ZF Γl) (ri.bind fun xs => loopF b c0 xs) := fun w => by
  obtain ⟨p, q⟩ := hg.ex w.nd (w.calm hc)
  have hb' : PSs X B (fun E σ H => ∃ c x, tJ X.K X.mg G (u x (Γl c)) R (ZF Γl) (b c x) E σ H) := ⟨fun pins s σ H D I ⟨c, x, h⟩ => (hb c x w).run pins s σ H D I h⟩
  refine (ps_for w.po (w.calm hc) (hi w) (PG.withLen p) hb' hs).weak fun E σ H ⟨H0, D0, D, os, hr, x, hx, hp⟩ => ?_
  rcases bind_some hx with ⟨xs, rfl, hf⟩ | ⟨e, rfl, rfl⟩
  · refine ⟨H0, D0, D, os, hr, _, rfl, fun J H1 D1 e1 hJ => ?_⟩
    have hr1 := hr.grow e1
    obtain ⟨os1, hr2⟩ := hr1.pick is
    rw [h0] at hr2
    refine ⟨fun i m σ H => m = xs.length - i ∧ i ≤ xs.length ∧ ∃ c D os, Rel X.K H0 D0 (Γl c) σ H D os ∧ Le D1 D ∧ loopF b c (xs.drop i) = some x, ⟨_, rfl, Nat.zero_le _, c0, D1, os1, hr2, Same.refl _, hf⟩, ?_⟩
    rintro i m σ H ⟨rfl, hi, c, D, os, hr, hl, hx⟩
    obtain ⟨j1, j2⟩ := hJ i H D hl hr.le
    by_cases hlt : i < xs.length
    · right
      have hg : xs[i]? = some xs[i] := List.getElem?_eq_getElem hlt
      obtain ⟨k1, k2⟩ := j1 _ hg
      rw [List.drop_eq_getElem_cons hlt] at hx
      have hx : (b c xs[i]).bind (flk fun c' => loopF b c' (xs.drop (i + 1))) = some x := hx
      refine ⟨k1, fun σ' H' => ∃ c1 D' os', b c xs[i] = ok (.nx c1) ∧ Rel X.K H0 D0 (Γl c1) σ' H' D' os' ∧ Le D1 D', ?_, ?_⟩
      · rintro σ' H' ⟨c1, D', os', hb1, hr', hl'⟩
        rw [hb1] at hx
        exact ⟨xs.length - (i + 1), by omega, rfl, hlt, c1, D', os', hr', hl', hx⟩
      · intro v H' hy hlen
        obtain ⟨D', e', rv⟩ := k2 v H' hy
        have hr3 := hr.grow e'
        have dd : Le D0 D' := hr3.ext.d
        have oo : ∀ p, D0 p = none → H0 p ≠ none → D' p = none := hr3.ext.out
        refine q H0 D' H' D' (Γl c) σ os xs[i] v _ hlen hr3.rebase rv fun σ2 os2 hl2 _ hr4 _ => ⟨c, xs[i], H0, D', D', os2, hr4, ?_⟩
        rcases bind_some hx with ⟨f, hb1, hf1⟩ | ⟨e, hb1, rfl⟩
        · refine ⟨_, hb1, ?_⟩
          cases f with
          | nx c1 => exact fun σ' H' D2 os' r => ⟨c1, D2, os', hb1, r.unbase dd oo, (hl.trans e'.d).trans r.ext.d⟩
          | rt a =>
            cases (show ok (Fl.rt a) = some x from hf1)
            exact (hp.rebase dd oo)
        · exact ⟨_, hb1, fun c d σ' H' D2 os' r => hp c d σ' H' D2 os' (r.unbase dd oo)⟩
    · left
      have ei : xs.drop i = [] := List.drop_eq_nil_of_le (by omega)
      rw [ei] at hx
      cases hx
      exact ⟨j2 (by omega), hp σ H D os hr⟩
  · exact ⟨H0, D0, D, os, hr, _, rfl, fun c d H' D' os' r => hp c d σ H' D' os' r⟩
theorem S_for {sl : List Nat} {A : Dt α} {u : α → Vw → Vw} {Γl : C → Vw} {ri : M (List α)} {b : C → α → M C} (is : List Nat) (c0 : C) {g : TG} (hi : ITR X G Γ tg it A ri) (hg : GT X tg sl A u g) (hb : ∀ c x, JB X G (u x (Γl c)) B R (fun c => .nx (Γl c)) (b c x)) (hc : G.c = true := by rfl) (h0 : pick is Γ = Γl c0 := by rfl)
    (hs : ∀ x, foldedSetIterable it X.env x = pure x := by intro _; rfl) : JS X G Γ (.For tg it B [] pos) R (fun c => .nx (Γl c)) (ri.bind fun xs => loopM b c0 xs) := fun w => by
  obtain ⟨p, q⟩ := hg.ex w.nd (w.calm hc)
  have hb' : PSs X B (fun E σ H => ∃ c x, tJ X.K X.mg G (u x (Γl c)) R (fun c => Dest.nx (Γl c)) (b c x) E σ H) := ⟨fun pins s σ H D I ⟨c, x, h⟩ => (hb c x w).run pins s σ H D I h⟩
  refine (ps_for w.po (w.calm hc) (hi w) (PG.withLen p) hb' hs).weak fun E σ H ⟨H0, D0, D, os, hr, x, hx, hp⟩ => ?_
  rcases bind_some hx with ⟨xs, rfl, hf⟩ | ⟨e, rfl, rfl⟩
  · refine ⟨H0, D0, D, os, hr, _, rfl, fun J H1 D1 e1 hJ => ?_⟩
    have hr1 := hr.grow e1
    obtain ⟨os1, hr2⟩ := hr1.pick is
    rw [h0] at hr2
    refine ⟨fun i m σ H => m = xs.length - i ∧ i ≤ xs.length ∧ ∃ c D os, Rel X.K H0 D0 (Γl c) σ H D os ∧ Le D1 D ∧ loopM b c (xs.drop i) = some x, ⟨_, rfl, Nat.zero_le _, c0, D1, os1, hr2, Same.refl _, hf⟩, ?_⟩
    rintro i m σ H ⟨rfl, hi, c, D, os, hr, hl, hx⟩
    obtain ⟨j1, j2⟩ := hJ i H D hl hr.le
    by_cases hlt : i < xs.length
    · right
      have hg : xs[i]? = some xs[i] := List.getElem?_eq_getElem hlt
      obtain ⟨k1, k2⟩ := j1 _ hg
      rw [List.drop_eq_getElem_cons hlt] at hx
      have hx : (b c xs[i]).bind (fun c' => loopM b c' (xs.drop (i + 1))) = some x := hx
      refine ⟨k1, fun σ' H' => ∃ c1 D' os', b c xs[i] = ok c1 ∧ Rel X.K H0 D0 (Γl c1) σ' H' D' os' ∧ Le D1 D', ?_, ?_⟩
      · rintro σ' H' ⟨c1, D', os', hb1, hr', hl'⟩
        rw [hb1] at hx
        exact ⟨xs.length - (i + 1), by omega, rfl, hlt, c1, D', os', hr', hl', hx⟩
      · intro v H' hy hlen
        obtain ⟨D', e', rv⟩ := k2 v H' hy
        have hr3 := hr.grow e'
        have dd : Le D0 D' := hr3.ext.d
        have oo : ∀ p, D0 p = none → H0 p ≠ none → D' p = none := hr3.ext.out
        refine q H0 D' H' D' (Γl c) σ os xs[i] v _ hlen hr3.rebase rv fun σ2 os2 hl2 _ hr4 _ => ⟨c, xs[i], H0, D', D', os2, hr4, ?_⟩
        rcases bind_some hx with ⟨f, hb1, hf1⟩ | ⟨e, hb1, rfl⟩
        · exact ⟨_, hb1, fun σ' H' D2 os' r => ⟨f, D2, os', hb1, r.unbase dd oo, (hl.trans e'.d).trans r.ext.d⟩⟩
        · exact ⟨_, hb1, fun c d σ' H' D2 os' r => hp c d σ' H' D2 os' (r.unbase dd oo)⟩
    · left
      have ei : xs.drop i = [] := List.drop_eq_nil_of_le (by omega)
      rw [ei] at hx
      cases hx
      exact ⟨j2 (by omega), hp σ H D os hr⟩
  · exact ⟨H0, D0, D, os, hr, _, rfl, fun c d H' D' os' r => hp c d σ H' D' os' r⟩

/-! ### while -/
def whileN {C : Type} (t : C → M Bool) (b : C → M C) : Nat → C → M C
  | 0, _ => stuck
  | n + 1, c => (t c).bind fun z => if z = true then (b c).bind (whileN t b n) else ok c
theorem whileN_mono {C : Type} {t : C → M Bool} {b : C → M C} : ∀ (n : Nat) (c : C) (x : Rs C), whileN t b n c = some x → ∀ k, whileN t b (n + k) c = some x
  | 0, _, _, h, _ => nomatch h
  | n + 1, c, x, h, k => by
    rw [show n + 1 + k = (n + k) + 1 by omega]
    have h : (t c).bind (fun z => if z = true then (b c).bind (whileN t b n) else ok c) = some x := h
    show (t c).bind (fun z => if z = true then (b c).bind (whileN t b (n + k)) else ok c) = some x
    rcases bind_some h with ⟨z, ht, hf⟩ | ⟨e, ht, rfl⟩
    · rw [ht, bind_ok]
      cases z with
      | false => exact hf
      | true =>
        have hf : (b c).bind (whileN t b n) = some x := hf
        show (b c).bind (whileN t b (n + k)) = some x
        rcases bind_some hf with ⟨c1, hb, hg⟩ | ⟨e, hb, rfl⟩
        · rw [hb]; exact whileN_mono n c1 x hg k
        · rw [hb]; rfl
    · rw [ht]; rfl
open Classical in
noncomputable def pickR {α : Type} (P : α → Prop) : Option α := if h : ∃ x, P x then some (Classical.choose h) else none
theorem pickR_pos {α : Type} {P : α → Prop} {x : α} (h : P x) (u : ∀ y, P y → y = x) : pickR P = some x := by
  have he : ∃ x, P x := ⟨x, h⟩
  unfold pickR
  rw [dif_pos he, u _ (Classical.choose_spec he)]
theorem pickR_neg {α : Type} {P : α → Prop} (h : ¬ ∃ x, P x) : pickR P = none := by
  unfold pickR
  rw [dif_neg h]
theorem pickR_some {α : Type} {P : α → Prop} {x : α} (h : pickR P = some x) : P x := by
  by_cases he : ∃ x, P x
  · unfold pickR at h
    rw [dif_pos he] at h
    cases h
    exact Classical.choose_spec he
  · rw [pickR_neg he] at h; cases h
def Runs {C : Type} (t : C → M Bool) (b : C → M C) (c : C) (x : Rs C) : Prop := ∃ n, whileN t b n c = some x
/-- first with fuel, so that the kernel can run it -/
noncomputable def whileM {C : Type} (t : C → M Bool) (b : C → M C) (c : C) : M C := match whileN t b 4000 c with
  | some x => some x
  | none => pickR (Runs t b c)
theorem whileM_none {C : Type} {t : C → M Bool} {b : C → M C} {c : C} (h : ∀ n x, whileN t b n c ≠ some x) : whileM t b c = none := by
  unfold whileM
  cases q : whileN t b 4000 c with
  | none => exact pickR_neg fun ⟨x, n, e⟩ => h n x e
  | some x => exact absurd q (h _ _)
theorem whileN_det {C : Type} {t : C → M Bool} {b : C → M C} {n m : Nat} {c : C} {x y : Rs C} (h : whileN t b n c = some x) (h2 : whileN t b m c = some y) : y = x := by
  have q1 := whileN_mono _ _ _ h2 n
  have q2 := whileN_mono _ _ _ h m
  rw [Nat.add_comm] at q2
  exact Option.some.inj (q1.symm.trans q2)
theorem whileM_of {C : Type} {t : C → M Bool} {b : C → M C} {n : Nat} {c : C} {x : Rs C} (h : whileN t b n c = some x) : whileM t b c = some x := by
  unfold whileM
  cases q : whileN t b 4000 c with
  | none => exact pickR_pos (P := Runs t b c) ⟨n, h⟩ fun y ⟨m, h2⟩ => whileN_det h h2
  | some y => exact congrArg some (whileN_det h q)
theorem whileM_some {C : Type} {t : C → M Bool} {b : C → M C} {c : C} {x : Rs C} (h : whileM t b c = some x) : ∃ n, whileN t b n c = some x := by
  unfold whileM at h
  cases q : whileN t b 4000 c with
  | none => rw [q] at h; exact pickR_some (P := Runs t b c) h
  | some y => rw [q] at h; cases h; exact ⟨_, q⟩
theorem whileM_eq {C : Type} (t : C → M Bool) (b : C → M C) (c : C) : whileM t b c = (t c).bind fun z => if z = true then (b c).bind (whileM t b) else ok c := by
  cases ht : t c with
  | none =>
    have : ∀ n x, whileN t b n c ≠ some x := fun n x h => by
      cases n with
      | zero => cases h
      | succ n => unfold whileN at h; rw [ht] at h; cases h
    rw [whileM_none this]
    rfl
  | some r =>
    cases r with
    | ex e => exact whileM_of (n := 1) (by unfold whileN; rw [ht]; rfl)
    | ok z =>
      cases z with
      | false => exact whileM_of (n := 1) (by unfold whileN; rw [ht]; rfl)
      | true =>
        show _ = (b c).bind (whileM t b)
        have step : ∀ n, whileN t b (n + 1) c = (b c).bind (whileN t b n) := fun n => by
          show (t c).bind _ = _
          rw [ht]; rfl
        cases hb : b c with
        | none =>
          have : ∀ n x, whileN t b n c ≠ some x := fun n x h => by
            cases n with
            | zero => cases h
            | succ n => rw [step, hb] at h; cases h
          rw [whileM_none this]
          rfl
        | some r =>
          cases r with
          | ex e => exact whileM_of (n := 1) (by rw [step, hb]; rfl)
          | ok c1 =>
            show _ = whileM t b c1
            cases hw : whileM t b c1 with
            | none =>
              cases hw2 : whileM t b c with
              | none => rfl
              | some x =>
                obtain ⟨n, h⟩ := whileM_some hw2
                cases n with
                | zero => cases h
                | succ n =>
                  rw [step, hb] at h
                  rw [whileM_of (show whileN t b n c1 = some x from h)] at hw
                  cases hw
            | some x =>
              obtain ⟨n, h⟩ := whileM_some hw
              exact whileM_of (n := n + 1) (by rw [step, hb]; exact h)
theorem S_while {Γl : C → Vw} {t : C → M Bool} {b : C → M C} (is : List Nat) (c0 : C) (ht : ∀ c, BT X G (Γl c) a (t c)) (hb : ∀ c, JB X G (Γl c) B R (fun c => .nx (Γl c)) (b c)) (h0 : pick is Γ = Γl c0 := by rfl) :
    JS X G Γ (.While a B [] pos) R (fun c => .nx (Γl c)) (whileM t b c0) := fun w => by
  have ht' : PT X a (fun σ H Q => ∃ c, tB X.K X.mg G (Γl c) (t c) σ H Q) := ⟨fun pins s σ H Q I ⟨c, h⟩ => (ht c w).run pins s σ H Q I h⟩
  have hb' : PSs X B (fun E σ H => ∃ c, tJ X.K X.mg G (Γl c) R (fun c => Dest.nx (Γl c)) (b c) E σ H) := ⟨fun pins s σ H D I ⟨c, h⟩ => (hb c w).run pins s σ H D I h⟩
  refine (ps_while w.po ht' hb').weak fun E σ H ⟨H0, D0, D, os, hr, x, hx, hp⟩ => ?_
  obtain ⟨n, hn⟩ := whileM_some hx
  obtain ⟨os1, hr1⟩ := hr.pick is
  rw [h0] at hr1
  refine ⟨fun m σ H => ∃ c D os, Rel X.K H0 D0 (Γl c) σ H D os ∧ whileN t b m c = some x, ⟨n, c0, D, os1, hr1, hn⟩, ?_⟩
  rintro m σ H ⟨c, D, os, hr, hx⟩
  cases m with
  | zero => cases hx
  | succ m =>
    have hx : (t c).bind (fun z => if z = true then (b c).bind (whileN t b m) else ok c) = some x := hx
    refine ⟨c, seqB (P := fun _ _ x => jPost X.K X.mg G H0 D0 R (fun c => Dest.nx (Γl c)) E x) hr hx hp (fun e h => fun c d => h c d σ) (fun _ _ _ h => h) fun z H1 D1 _ hx1 e1 hr1 hp1 => ?_⟩
    cases z with
    | false => cases hx1; exact hp1 σ H1 D1 os hr1
    | true =>
      have hx1 : (b c).bind (whileN t b m) = some x := hx1
      refine ⟨fun σ' H' => ∃ c1 D' os', b c = ok c1 ∧ Rel X.K H0 D0 (Γl c1) σ' H' D' os', ?_, c, H0, D0, D1, os, hr1, ?_⟩
      · rintro σ' H' ⟨c1, D', os', hb1, hr'⟩
        rw [hb1] at hx1
        exact ⟨m, Nat.lt_succ_self _, c1, D', os', hr', hx1⟩
      · rcases bind_some hx1 with ⟨f, hb1, hf1⟩ | ⟨e, hb1, rfl⟩
        · exact ⟨_, hb1, fun σ' H' D2 os' r => ⟨f, D2, os', hb1, r⟩⟩
        · exact ⟨_, hb1, hp1⟩
end
end T

set_option maxRecDepth 100000
set_option maxHeartbeats 4000000
namespace T
open PySem PySem.Spec PyProof.Rows L2
section
variable {X : Cx} {G : Ctx} {Γ : Vw} {α β γ δ τ ρ θ C C' : Type} {a b c e it tg : Expr} {pos : Pos} {st : Stmt} {rest B : List Stmt} {R : Rp ρ} {Z : θ → Dest ρ}

/-! ### lists made of lists -/
theorem Paired.append {F : α → L2.V → Prop} {ys : List α} {ws : List L2.V} (h : Paired F ys ws) : ∀ {xs : List α} {vs : List L2.V}, Paired F xs vs → Paired F (xs ++ ys) (vs ++ ws)
  | _, _, .nil => h
  | _, _, .cons r t => .cons r (Paired.append h t)
theorem Paired.take {F : α → L2.V → Prop} : ∀ {xs : List α} {vs : List L2.V} (n : Nat), Paired F xs vs → Paired F (xs.take n) (vs.take n)
  | _, _, 0, _ => .nil
  | _, _, n + 1, .nil => .nil
  | _, _, n + 1, .cons r t => .cons r (Paired.take n t)
theorem Paired.drop {F : α → L2.V → Prop} : ∀ {xs : List α} {vs : List L2.V} (n : Nat), Paired F xs vs → Paired F (xs.drop n) (vs.drop n)
  | _, _, 0, h => h
  | _, _, n + 1, .nil => .nil
  | _, _, n + 1, .cons r t => Paired.drop n t
theorem Paired.rep {F : α → L2.V → Prop} {xs : List α} {vs : List L2.V} (h : Paired F xs vs) : ∀ k : Nat, Paired F (List.replicate k xs).flatten (List.replicate k vs).flatten
  | 0 => .nil
  | k + 1 => by
    rw [List.replicate_succ, List.replicate_succ, List.flatten_cons, List.flatten_cons]
    exact Paired.append (Paired.rep h k) h
theorem Paired.reverse {F : α → L2.V → Prop} : ∀ {xs : List α} {vs : List L2.V}, Paired F xs vs → Paired F xs.reverse vs.reverse
  | _, _, .nil => .nil
  | _, _, .cons r t => by
    rw [List.reverse_cons, List.reverse_cons]
    exact Paired.snoc r (Paired.reverse t)
/-- the end of a rule that makes a new list -/
theorem own_new {K : Fr} {H D : Hp} {A : Dt α} {xs : List α} {vs : List L2.V} {Q : VK} {p : Addr} (le : Le D H) (np : H p = none) (h : Paired (A.rep K D) xs vs) (k : ∀ v H' D' fp, Ext H D H' D' → (own A).rep K H' D' fp xs v → Frs H D' H' fp → Q v H') : Q (.ref p) (upd H p (.lst vs)) :=
  k (.ref p) _ D [p] (Ext.fresh le np) ⟨p, vs, rfl, rfl, upd_same, h⟩ ⟨by simp, fun q hq => by
    have : q = p := by simpa using hq
    subst this
    exact ⟨np, le.free np, by rw [upd_same]; simp⟩⟩
theorem row_new {K : Fr} {H D : Hp} {A : Dt α} {xs : List α} {vs : List L2.V} {Q : VK} {p : Addr} (le : Le D H) (np : H p = none) (h : Paired (A.rep K D) xs vs) (k : ∀ v H' D' fp, Ext H D H' D' → (dat (tRow A)).rep K H' D' fp xs v → Frs H D' H' fp → Q v H') : Q (.ref p) (upd H p (.tup vs)) :=
  k (.ref p) _ (upd D p (.tup vs)) [] (Ext.laid le np) ⟨rfl, p, vs, rfl, .inl (.inl upd_same), A.monos (Same.upd (le.free np)) h⟩ .nil
def pcat {α : Type} (xs ys : List α) : M (List α) := grd (xs.length + ys.length ≤ sizeLine) (ok (xs ++ ys))
/-- a list that stands and may be changed or not, to be read at once -/
def borT {α : Type} (A : Dt α) : Rp (List α) := ⟨fun K H D fp xs v => fp = [] ∧ ∃ p vs, v = .ref p ∧ H p = some (.lst vs) ∧ Paired (A.rep K D) xs vs,
  fun e d ⟨h0, p, vs, h1, h3, h4⟩ => ⟨h0, p, vs, h1, e _ _ h3, A.monos d h4⟩⟩
theorem E_borT {A : Dt α} {r : M (List α)} (h : ET X G Γ a (dat (tLst A)) r) : ET X G Γ a (borT A) r := fun w =>
  (h w).weak fun σ H Q ⟨H0, D0, D, os, hr, x, hx, hp⟩ => ⟨H0, D0, D, os, hr, x, hx, by
    cases x with
    | ex e => exact hp
    | ok xs => exact fun v H' D' fp e ⟨h0, p, vs, r1, r3, r4⟩ f => hp v H' D' [] e ⟨rfl, p, vs, r1, e.dh _ _ r3, r4⟩ .nil⟩
theorem E_borTF {A : Dt α} {r : M (List α)} (h : ET X G Γ a (own A) r) : ET X G Γ a (borT A) r := E_borT (E_frz h)
theorem E_ownT (i : Nat) {x : Str} {A : Dt α} {val : List α} {p : Pos} (hf : find i Γ = some (eO i A val) := by rfl) (hN : X.N[i]? = some x := by rfl) (hv : Vis X.env.scope x := by first | exact Or.inl rfl | exact Or.inr (Or.inl rfl) | exact Or.inr (Or.inr rfl))
    (hd : (x == ("__debug__" : Str)) = false := by decide) (hcd : (x == ("__classdict__" : Str)) = false := by decide) : ET X G Γ (.Name x p) (borT A) (ok val) := fun w =>
  (pe_var hN hv hd hcd).weak fun σ H Q ⟨H0, D0, D, os, hr, x, hx, hp⟩ => by
    cases hx
    obtain ⟨fp, os', v, q1, ⟨p, vs, r1, r2, r3, r4⟩, _, _, _⟩ := hr.hold.find hf hr.nd
    exact ⟨v, q1, hp v H D [] (Ext.refl hr.le) ⟨rfl, p, vs, r1, r3, r4⟩ .nil⟩
theorem E_cat {A : Dt α} {ra rb : M (List α)} (ha : ET X G Γ a (borT A) ra) (hb : ET X G Γ b (borT A) rb) : ET X G Γ (.BinOp a .Add b pos) (own A) (ra.bind fun x => rb.bind fun y => pcat x y) :=
  E_op2 (A := borT A) (B := borT A) (R := own A) op_cat (fun H D xs ys va vb fa fb c Q le ⟨_, p, vs, z1, h1, h2⟩ ⟨_, q, ws, z2, h3, h4⟩ hg k => by
    obtain ⟨g1, g2⟩ := grd_ok hg
    cases g2
    exact ⟨p, q, vs, ws, z1, z2, h1, h3, by rw [← h2.length, ← h4.length]; exact g1, fun r nr => own_new le nr (Paired.append h4 h2) k⟩) (fun _ _ _ => grd_nx (fun z => nomatch z)) ha hb
def prep {α : Type} (xs : List α) (k : Int) : M (List α) := grd (-(2 ^ 63) ≤ k ∧ k < 2 ^ 63 ∧ xs.length * k.toNat ≤ sizeLine) (ok (List.replicate k.toNat xs).flatten)
theorem E_rep {A : Dt α} {ra : M (List α)} {rb : M Int} (ha : ET X G Γ a (borT A) ra) (hb : ET X G Γ b (dat tInt) rb) : ET X G Γ (.BinOp a .Mult b pos) (own A) (ra.bind fun x => rb.bind fun y => prep x y) :=
  E_op2 (A := borT A) (B := dat tInt) (R := own A) op_rep (fun H D xs k va vb fa fb c Q le ⟨_, p, vs, z1, h1, h2⟩ ⟨_, z2⟩ hg q => by
    obtain ⟨⟨g1, g2, g3⟩, g4⟩ := grd_ok hg
    cases g4
    exact ⟨p, k, vs, z1, z2, h1, g1, g2, by rw [← h2.length]; exact g3, fun r nr => own_new le nr (Paired.rep h2 _) q⟩) (fun _ _ _ => grd_nx (fun z => nomatch z)) ha hb
/-- t + u of tuples -/
def pcatT {α : Type} (xs ys : List α) : M (List α) := grd (xs.length + ys.length ≤ sizeLine) (ok (xs ++ ys))
/-- list(x) -/
theorem E_listL {A : Dt α} {ra : M (List α)} {p : Pos} (hm : X.mg "list" = none) (ha : ET X G Γ a (bor A) ra) (hg : Gl X "list" := by rfl) (hs1 : starEach [a] X.env = [(false, eval a X.env)] := by rfl) :
    ET X G Γ (.Call (.Name "list" p) [a] [] pos) (own A) (ra.bind fun x => ok x) := E_ty1 (A := bor A) (R := own A) call_list_of (fun H D a va fa c Q le ⟨_, p, vs, z, h1, h2⟩ hg k => by
    cases hg
    exact ⟨p, vs, by rw [z], .inl h1, fun l nl => own_new le nl h2 k⟩) nxok hm (by decide +kernel) ha hg (by decide) (by decide) hs1 rfl
theorem E_listT {A : Dt α} {ra : M (List α)} {p : Pos} (hm : X.mg "list" = none) (ha : ET X G Γ a (dat (tRow A)) ra) (hg : Gl X "list" := by rfl) (hs1 : starEach [a] X.env = [(false, eval a X.env)] := by rfl) :
    ET X G Γ (.Call (.Name "list" p) [a] [] pos) (own A) (ra.bind fun x => ok x) := E_ty1 (A := dat (tRow A)) (R := own A) call_list_of (fun H D a va fa c Q le ⟨_, p, vs, z, h1, h2⟩ hg k => by
    cases hg
    exact ⟨p, vs, by rw [z], .inr (SqT.mono le h1), fun l nl => own_new le nl h2 k⟩) nxok hm (by decide +kernel) ha hg (by decide) (by decide) hs1 rfl
theorem E_tupleL {A : Dt α} {ra : M (List α)} {p : Pos} (hm : X.mg "tuple" = none) (ha : ET X G Γ a (bor A) ra) (hg : Gl X "tuple" := by rfl) (hs1 : starEach [a] X.env = [(false, eval a X.env)] := by rfl) :
    ET X G Γ (.Call (.Name "tuple" p) [a] [] pos) (dat (tRow A)) (ra.bind fun x => ok x) := E_ty1 (A := bor A) (R := dat (tRow A)) call_tuple_of (fun H D a va fa c Q le ⟨_, p, vs, z, h1, h2⟩ hg k => by
    cases hg
    exact ⟨p, vs, by rw [z], .inl ⟨h1, fun l nl => row_new le nl h2 k⟩⟩) nxok hm (by decide +kernel) ha hg (by decide) (by decide) hs1 rfl
theorem E_tupleT {A : Dt α} {ra : M (List α)} {p : Pos} (hm : X.mg "tuple" = none) (ha : ET X G Γ a (dat (tRow A)) ra) (hg : Gl X "tuple" := by rfl) (hs1 : starEach [a] X.env = [(false, eval a X.env)] := by rfl) :
    ET X G Γ (.Call (.Name "tuple" p) [a] [] pos) (dat (tRow A)) (ra.bind fun x => ok x) := E_ty1 (A := dat (tRow A)) (R := dat (tRow A)) call_tuple_of (fun H D a va fa c Q le ⟨_, p, vs, z, h1, h2⟩ hg k => by
    cases hg
    exact ⟨p, vs, by rw [z], .inr ⟨SqT.mono le h1, k _ H D [] (Ext.refl le) ⟨rfl, p, vs, rfl, h1, h2⟩ .nil⟩⟩) nxok hm (by decide +kernel) ha hg (by decide) (by decide) hs1 rfl

/-! ### slices -/
def cutL {α : Type} (xs : List α) (lo hi : Option Int) : List α := (xs.drop (HT.sIx xs.length 0 lo)).take (HT.sIx xs.length xs.length hi - HT.sIx xs.length 0 lo)
theorem cutV_paired {F : α → L2.V → Prop} {xs : List α} {vs : List L2.V} (h : Paired F xs vs) (lo hi : Option Int) : Paired F (cutL xs lo hi) (cutV vs lo hi) := by
  unfold cutL cutV
  rw [h.length]
  exact Paired.take _ (Paired.drop _ h)
/-- a part of a slice -/
def OT (X : Cx) (G : Ctx) (Γ : Vw) (e : Option Expr) (r : M (Option Int)) : Prop := Wf X G → PO X e (fun σ H Q => ∃ H0 D0 D os, Rel X.K H0 D0 Γ σ H D os ∧ ∃ x, r = some x ∧ match x with
    | .ok o => ∀ H' D', Ext H D H' D' → Q o H'
    | .ex e => ∀ c d H' D' os', Rel X.K H0 D0 G.Vx σ H' D' os' → XRep X.K X.mg D' e c d → G.W c d σ H')
theorem _root_.L2.PO.weak {X : Cx} {e : Option Expr} {t t' : TO} (h : PO X e t) (w : ∀ σ H Q, t' σ H Q → t σ H Q) : PO X e t' := ⟨fun pins s σ H Q I hq => h.run pins s σ H Q I (w _ _ _ hq)⟩
theorem O_none : OT X G Γ none (ok none) := fun w => po_none.weak fun σ H Q ⟨H0, D0, D, os, hr, x, hx, hp⟩ => by
  cases hx
  exact hp H D (Ext.refl hr.le)
theorem O_some {ra : M Int} (ha : ET X G Γ a (dat tInt) ra) : OT X G Γ (some a) (ra.bind fun x => ok (some x)) := fun w => (po_some (ha w)).weak fun σ H Q ⟨H0, D0, D, os, hr, x, hx, hp⟩ => by
  rcases bind_some hx with ⟨i, rfl, hf⟩ | ⟨e, rfl, rfl⟩
  · cases hf
    exact ⟨H0, D0, D, os, hr, _, rfl, fun v H' D' fp e ⟨_, r⟩ f => ⟨i, r, hp H' D' e⟩⟩
  · exact ⟨H0, D0, D, os, hr, _, rfl, hp⟩
theorem E_sl {r : L2.V → Option Int → Option Int → Hp → VK → Prop} {A : Rp α} {Q' : Rp γ} {g : α → Option Int → Option Int → M γ} {ra : M α} {rl rh : M (Option Int)} {lo hi : Option Expr} {p2 : Pos} (hr' : SlR X r) (ha : ET X G Γ a A ra) (hl : OT X G Γ lo rl) (hh : OT X G Γ hi rh)
    (nx : ∀ x l h e, g x l h ≠ exc e) (hs : ∀ (H D : Hp) x v f l h c Q, Le D H → A.rep X.K H D f x v → g x l h = ok c → (∀ v H' D' fp, Ext H D H' D' → Q'.rep X.K H' D' fp c v → Frs H D' H' fp → Q v H') → r v l h H Q) :
    ET X G Γ (.Subscript a (.Slice lo hi none p2) pos) Q' (ra.bind fun x => rl.bind fun l => rh.bind fun h => g x l h) := fun w =>
  (pe_slice hr' (ha w) (hl w) (hh w)).weak fun σ H Q ⟨H0, D0, D, os, hr, x, hx, hp⟩ =>
    seqEE hr hx hp fun i H1 D1 fp v _ hx1 e1 r1 f1 hr1 hp1 => by
      rcases bind_some hx1 with ⟨l, rfl, hf⟩ | ⟨e, rfl, rfl⟩
      · refine ⟨H0, D0, D1, os, hr1, _, rfl, fun H2 D2 e2 => ?_⟩
        have hr2 := hr1.grow e2
        have hp2 := hp1.grow e2
        rcases bind_some hf with ⟨h, rfl, hf⟩ | ⟨e, rfl, rfl⟩
        · refine ⟨H0, D0, D2, os, hr2, _, rfl, fun H3 D3 e3 => ?_⟩
          have hr3 := hr2.grow e3
          have hp3 := hp2.grow e3
          cases x with
          | ok c => exact hs H3 D3 i v fp l h c Q hr3.le (A.mono (e2.h.trans e3.h) (e2.d.trans e3.d) r1) hf hp3
          | ex e => exact absurd hf (nx _ _ _ _)
        · exact ⟨H0, D0, D2, os, hr2, _, rfl, hp2⟩
      · exact ⟨H0, D0, D1, os, hr1, _, rfl, hp1⟩
theorem E_slL {A : Dt α} {ra : M (List α)} {rl rh : M (Option Int)} {lo hi : Option Expr} {p2 : Pos} (ha : ET X G Γ a (bor A) ra) (hl : OT X G Γ lo rl) (hh : OT X G Γ hi rh) :
    ET X G Γ (.Subscript a (.Slice lo hi none p2) pos) (own A) (ra.bind fun x => rl.bind fun l => rh.bind fun h => ok (cutL x l h)) :=
  E_sl (A := bor A) (Q' := own A) (g := fun x l h => ok (cutL x l h)) sl_list ha hl hh (fun _ _ _ _ z => nomatch z) fun H D x v f l h c Q le ⟨_, p, vs, z, h1, h2⟩ hg k => by
    cases hg
    exact ⟨p, vs, z, h1, fun q nq => own_new le nq (cutV_paired h2 l h) k⟩
end
end T

set_option maxRecDepth 100000
set_option maxHeartbeats 4000000
namespace T
open PySem PySem.Spec PyProof.Rows L2

/-! ### comprehensions -/
def noX {α : Type} (m : M α) : M α := match m with
  | some (.ok a) => ok a
  | _ => none
theorem noX_ok {α : Type} (a : α) : noX (ok a) = ok a := rfl
theorem noX_some {α : Type} {m : M α} {x : Rs α} (h : noX m = some x) : ∃ a, m = ok a ∧ x = .ok a := by
  cases m with
  | none => cases h
  | some r =>
    cases r with
    | ok a => cases h; exact ⟨a, rfl, rfl⟩
    | ex e => cases h
def consO {β : Type} : Option β → List β → List β
  | some y, r => y :: r
  | none, r => r
/-- t: the test, f: the element -/
def compG {α β : Type} (t : α → M Bool) (f : α → M β) : List α → M (List β)
  | [] => ok []
  | x :: xs => (noX (t x)).bind fun b => if b = true then (noX (f x)).bind fun y => (compG t f xs).bind fun r => ok (y :: r) else compG t f xs
def compL {α β : Type} (t : α → M Bool) (f : α → M β) (xs : List α) : M (List β) := (compG t f xs).bind psz
/-- without a test -/
def mapC {α β : Type} (f : α → M β) (xs : List α) : M (List β) := compL (fun _ => ok true) f xs
theorem compG_nx {α β : Type} {t : α → M Bool} {f : α → M β} : ∀ (xs : List α) (e : Ex), compG t f xs ≠ exc e
  | [], e, h => nomatch h
  | x :: xs, e, h => by
    have h : (noX (t x)).bind (fun b => if b = true then (noX (f x)).bind fun y => (compG t f xs).bind fun r => ok (y :: r) else compG t f xs) = some (.ex e) := h
    rcases bind_some h with ⟨b, h1, h2⟩ | ⟨e', h1, _⟩
    · cases b with
      | true =>
        have h2 : (noX (f x)).bind (fun y => (compG t f xs).bind fun r => ok (y :: r)) = some (.ex e) := h2
        rcases bind_some h2 with ⟨y, h3, h4⟩ | ⟨e', h3, _⟩
        · rcases bind_some h4 with ⟨r, h5, h6⟩ | ⟨e', h5, _⟩
          · cases h6
          · exact compG_nx xs e' h5
        · obtain ⟨a, _, z⟩ := noX_some (show noX (f x) = some (.ex e') from h3)
          cases z
      | false => exact compG_nx xs e h2
    · obtain ⟨a, _, z⟩ := noX_some (show noX (t x) = some (.ex e') from h1)
      cases z
section
variable {X : Cx} {G : Ctx} {Γ : Vw} {α β γ δ τ ρ θ C C' : Type} {a b c e it tg elt : Expr} {pos : Pos} {st : Stmt} {rest B : List Stmt} {R : Rp ρ} {Z : θ → Dest ρ} {ifs : List Expr}
def BTs (X : Cx) (G : Ctx) (Γ : Vw) (ifs : List Expr) (r : M Bool) : Prop := Wf X G → PTs X ifs (tB X.K X.mg G Γ r)
theorem Bs_nil : BTs X G Γ [] (ok true) := fun w => ⟨fun pins s σ H Q I ⟨H0, D0, D, os, hr, x, hx, hp⟩ => by
  cases hx
  exact wpAny_tests_nil ⟨H, I, hp H D (Ext.refl hr.le)⟩⟩
theorem Bs_one {r : M Bool} (h : BT X G Γ c r) : BTs X G Γ [c] r := fun w => pts_one (h w)
def rmvs : List Nat → Vw → Vw
  | [], Γ => Γ
  | i :: is, Γ => rmv i (rmvs is Γ)
theorem Hold.wipe {K : Fr} {H D : Hp} {σ : L2.St} {Γ : Vw} {os : List Addr} : ∀ (vs : List Nat), os.Nodup → Hold K H D σ Γ os → ∃ os', Hold K H D (wipe σ vs) (rmvs vs Γ) os' ∧ os'.Nodup ∧ ∀ p ∈ os', p ∈ os
  | [], nd, h => ⟨os, h, nd, fun _ z => z⟩
  | v :: vs, nd, h => by
    obtain ⟨o1, q1, q2, q3⟩ := Hold.wipe vs nd h
    obtain ⟨o2, p1, p2, p3⟩ := q1.rmv v q2
    exact ⟨o2, p1.set, p2, fun p hp => q3 p (p3 p hp)⟩
theorem Rel.wipe {K : Fr} {H0 D0 H D : Hp} {σ : L2.St} {os : List Addr} (r : Rel K H0 D0 Γ σ H D os) (vs : List Nat) : ∃ os', Rel K H0 D0 (rmvs vs Γ) (L2.wipe σ vs) H D os' := by
  obtain ⟨o1, q1, q2, q3⟩ := r.hold.wipe vs r.nd
  exact ⟨o1, r.ext, fun p hp => r.own p (q3 p hp), q2, q1⟩
abbrev Ctx.blk (G : Ctx) : Ctx := ⟨fun _ _ _ _ => False, [], G.k, G.c⟩
theorem Wf.blk (w : Wf X G) (s : Shared) (H : Hp) (scope : Scope) (cenv : Env) (fp : List Addr) : Wf (X.blk s H scope cenv fp) G.blk :=
  ⟨takes0, w.nd, w.room, w.calm, w.hu, PassesOwn.never⟩
/-- the reading of a comprehension from ours -/
theorem comp_weak {A : Dt α} {B : Dt β} {u : α → Vw → Vw} {ri : M (List α)} {t : α → M Bool} {f : α → M β} {vs : List Nat} {g : TG}
    (N : Nat) (hg : ∀ (H0 D0 H D : Hp) (Γ : Vw) (σ : L2.St) (os : List Addr) (x : α) (v : L2.V) (Q : L2.St → Hp → Prop), σ.length = N → Rel X.K H0 D0 Γ σ H D os → A.rep X.K D x v →
      (∀ σ' os', σ'.length = N → (wipe σ' vs = wipe σ vs) → Rel X.K H0 D0 (u x Γ) σ' H D os' → Q σ' H) → g v σ H Q)
    (σ : L2.St) (H : Hp) (Q : VK) (hl : σ.length = N) (h : tE X.K X.mg G Γ (own B) (ri.bind fun xs => compL t f xs) σ H Q) :
    tLc (tI X.K X.mg G Γ A ri) g (fun σ H Q => ∃ x, tB X.K X.mg G.blk (u x (rmvs vs Γ)) (t x) σ H Q) (fun σ H Q => ∃ x, tE X.K X.mg G.blk (u x (rmvs vs Γ)) (dat B) (f x) σ H Q) vs σ H Q := by
  obtain ⟨H0, D0, D, os, hr, x, hx, hp⟩ := h
  rcases bind_some hx with ⟨xs, rfl, hf⟩ | ⟨e, rfl, rfl⟩
  · refine ⟨H0, D0, D, os, hr, _, rfl, fun J H1 D1 e1 hJ Dl nD => ?_⟩
    rcases bind_some hf with ⟨res, hres, hsz⟩ | ⟨e, he, _⟩
    · obtain ⟨sz, e0⟩ := grd_some hsz
      cases e0
      have hr1 := hr.grow e1
      have nD1 : D1 Dl = none := e1.dh.free nD
      have hp1 := hp.grow e1
      -- Pv: so many are taken, the new list holds acc
      refine ⟨fun i m H => m = xs.length - i ∧ i ≤ xs.length ∧ ∃ acc vacc rest D2, H Dl = some (.lst vacc) ∧ Ext H1 D1 H D2 ∧ D2 Dl = none ∧ Paired (B.rep X.K D2) acc vacc ∧ compG t f (xs.drop i) = ok rest ∧ res = acc ++ rest,
        ⟨_, rfl, Nat.zero_le _, [], [], res, D1, upd_same, Ext.fresh e1.dh nD, nD1, .nil, hres, rfl⟩, ?_⟩
      rintro i m H2 ⟨rfl, hi, acc, vacc, rest, D2, hD, e2, nD2, hpa, hc, hres2⟩
      have hr2 := hr1.grow e2
      obtain ⟨j1, j2⟩ := hJ i H2 D2 e2.d e2.dh
      by_cases hlt : i < xs.length
      · right
        have hgx : xs[i]? = some xs[i] := List.getElem?_eq_getElem hlt
        obtain ⟨k1, k2⟩ := j1 _ hgx
        rw [List.drop_eq_getElem_cons hlt] at hc
        have hc : (noX (t xs[i])).bind (fun b => if b = true then (noX (f xs[i])).bind fun y => (compG t f (xs.drop (i + 1))).bind fun r => ok (y :: r) else compG t f (xs.drop (i + 1))) = some (.ok rest) := hc
        refine ⟨k1, fun H' => ∃ acc vacc rest D2, H' Dl = some (.lst vacc) ∧ Ext H1 D1 H' D2 ∧ D2 Dl = none ∧ Paired (B.rep X.K D2) acc vacc ∧ compG t f (xs.drop (i + 1)) = ok rest ∧ res = acc ++ rest, fun H' hN => ⟨xs.length - (i + 1), by omega, rfl, hlt, hN⟩, fun v H3 hy => ?_⟩
        obtain ⟨D3, e3, rv⟩ := k2 v H3 hy
        have hr3 := hr2.grow e3
        have hD3 : H3 Dl = some (.lst vacc) := e3.h _ _ hD
        have nD3 : D3 Dl = none := e3.out Dl nD2 (by rw [hD]; simp)
        obtain ⟨os4, hr4⟩ := hr3.wipe vs
        refine hg H0 D0 H3 D3 (rmvs vs Γ) (wipe σ vs) os4 xs[i] v _ (by rw [wipe_length]; exact hl) hr4 rv fun σ5 os5 hl5 hw5 hr5 => ⟨?_, xs[i], H0, D0, D3, os5, hr5, ?_⟩
        · rw [hw5, wipe_wipe vs fun _ h => h]
        rcases bind_some hc with ⟨b, hb1, hb2⟩ | ⟨e, he, _⟩
        · obtain ⟨b', hb3, hb4⟩ := noX_some hb1
          cases hb4
          refine ⟨_, hb3, fun H6 D6 e6 => ?_⟩
          have hr6 := hr5.grow e6
          have hD6 : H6 Dl = some (.lst vacc) := e6.h _ _ hD3
          have nD6 : D6 Dl = none := e6.out Dl nD3 (by rw [hD3]; simp)
          have e16 : Ext H1 D1 H6 D6 := (e2.trans e3).trans e6
          cases b with
          | false => exact ⟨acc, vacc, rest, D6, hD6, e16, nD6, B.monos (e3.d.trans e6.d) hpa, hb2, hres2⟩
          | true =>
            refine iteT ?_
            have hb2 : (noX (f xs[i])).bind (fun y => (compG t f (xs.drop (i + 1))).bind fun r => ok (y :: r)) = some (.ok rest) := hb2
            rcases bind_some hb2 with ⟨y, hy1, hy2⟩ | ⟨e, he, z⟩
            · obtain ⟨y', hy3, hy4⟩ := noX_some hy1
              cases hy4
              rcases bind_some hy2 with ⟨r, hr7, hr8⟩ | ⟨e, he, z⟩
              · cases hr8
                refine ⟨xs[i], H0, D0, D6, os5, hr6, _, hy3, fun v7 H7 D7 fp7 e7 ⟨_, rep7⟩ f7 => ?_⟩
                have hD7 : H7 Dl = some (.lst vacc) := e7.h _ _ hD6
                have nD7 : D7 Dl = none := e7.out Dl nD6 (by rw [hD6]; simp)
                have e17 := e16.trans e7
                have hpa7 : Paired (B.rep X.K D7) (acc ++ [y]) (vacc ++ [v7]) := Paired.snoc rep7 (B.monos ((e3.d.trans e6.d).trans e7.d) hpa)
                refine ⟨vacc, hD7, ?_, acc ++ [y], vacc ++ [v7], r, D7, upd_same, ⟨fun b o z => ?_, e17.d, fun b o z => ?_, e17.out⟩, nD7, hpa7, hr7, by rw [hres2]; simp⟩
                · have l1 : acc.length = vacc.length := hpa.length
                  rw [hres2] at sz
                  simp only [List.length_append, List.length_cons] at sz
                  omega
                · rw [upd_ne (ne_of_none z nD)]; exact e17.h b o z
                · rw [upd_ne (ne_of_none z nD7)]; exact e17.dh b o z
              · cases z
            · cases z
        · obtain ⟨a, _, z⟩ := noX_some (show noX (t xs[i]) = some (.ex e) from he)
          cases z
      · left
        have ei : xs.drop i = [] := List.drop_eq_nil_of_le (by omega)
        rw [ei] at hc
        cases hc
        refine ⟨j2 (by omega), ?_⟩
        refine hp1 (.ref Dl) H2 D2 [Dl] e2 ⟨Dl, vacc, rfl, rfl, hD, ?_⟩ ⟨by simp, fun q hq => ?_⟩
        · rw [hres2, List.append_nil]; exact hpa
        · have : q = Dl := by simpa using hq
          subst this
          exact ⟨nD, nD2, by rw [hD]; simp⟩
    · exact absurd he (compG_nx _ _)
  · exact ⟨H0, D0, D, os, hr, _, rfl, hp⟩
theorem _root_.L2.PE.weakI {X : Cx} {e : Expr} {t t' : TE} (h : PE X e t) (w : ∀ σ H Q, σ.length = X.N.length → t' σ H Q → t σ H Q) : PE X e t' := ⟨fun pins s σ H Q I hq => h.run pins s σ H Q I (w _ _ _ I.len hq)⟩
structure CompOk (X : Cx) (G : Ctx) (Γ : Vw) (elt tg it : Expr) (ifs : List Expr) (scope : Scope) (own : List (Str × Nat)) (B : Dt β) (r : M (List β)) : Prop where
  ex : Wf X G → ∃ (wi : TI) (g : TG) (tt : TT) (te : TE), PI X tg it wi ∧ BlkOk X.N X.env.scope scope own ∧ (∀ s H C cl fp, PG (X.blk s H scope (compEnvC scope cl C X.env) fp) tg g) ∧ (∀ s H C cl fp, PTs (X.blk s H scope (compEnvC scope cl C X.env) fp) ifs tt) ∧
    (∀ s H C cl fp, PE (X.blk s H scope (compEnvC scope cl C X.env) fp) elt te) ∧ (∀ x, foldedSetIterable it X.env x = pure x) ∧ ∀ σ H Q, σ.length = X.N.length → tE X.K X.mg G Γ (T.own B) r σ H Q → tLc wi g tt te (own.map (·.2)) σ H Q
theorem C_comp {scope : Scope} {own : List (Str × Nat)} {sl : List Nat} {A : Dt α} {B : Dt β} {u : α → Vw → Vw} {g : TG} {ri : M (List α)} {t : α → M Bool} {f : α → M β} (hi : ITR X G Γ tg it A ri)
    (hg : ∀ (s : Shared) (H : Hp) (C : Addr) (cl : List (Str × Addr)) (fp : List Addr), GT (X.blk s H scope (compEnvC scope cl C X.env) fp) tg sl A u g)
    (ht : ∀ (s : Shared) (H : Hp) (C : Addr) (cl : List (Str × Addr)) (fp : List Addr) (x : α), BTs (X.blk s H scope (compEnvC scope cl C X.env) fp) G.blk (u x (rmvs (own.map (·.2)) Γ)) ifs (t x))
    (he : ∀ (s : Shared) (H : Hp) (C : Addr) (cl : List (Str × Addr)) (fp : List Addr) (x : α), ET (X.blk s H scope (compEnvC scope cl C X.env) fp) G.blk (u x (rmvs (own.map (·.2)) Γ)) elt (dat B) (f x))
    (hc : G.c = true := by rfl)
    (hok : blkC X.N X.env.scope scope own = true := by decide +kernel) (hsl : ∀ i ∈ sl, i ∈ own.map (·.2) := by decide) (hs : ∀ x, foldedSetIterable it X.env x = pure x := by intro _; rfl) : CompOk X G Γ elt tg it ifs scope own B (ri.bind fun xs => compL t f xs) := ⟨fun w =>
  ⟨_, g, _, _, hi w, blkOk_by hok, fun s H C cl fp => ((hg s H C cl fp).ex w.nd (w.calm hc)).1,
    fun s H C cl fp => ⟨fun pins s' σ H' Q I ⟨x, h⟩ => (ht s H C cl fp x (w.blk _ _ _ _ _)).run pins s' σ H' Q I h⟩,
    fun s H C cl fp => ⟨fun pins s' σ H' Q I ⟨x, h⟩ => (he s H C cl fp x (w.blk _ _ _ _ _)).run pins s' σ H' Q I h⟩, hs,
    fun σ H Q hl h => comp_weak X.N.length (fun H0 D0 H D Γ σ os x v Q hl hr rv k => ((hg X.s_0 X.H_0 0 [] []).ex w.nd (w.calm hc)).2 H0 D0 H D Γ σ os x v Q hl hr rv fun σ' os' hl' hw' hr' => k σ' os' hl' (hw' _ hsl) hr') σ H Q hl h⟩⟩
theorem E_comp {scope : Scope} {own : List (Str × Nat)} {B : Dt β} {r : M (List β)} (h : CompOk X G Γ elt tg it ifs scope own B r) (hc : G.c = true := by rfl) : ET X G Γ (.ListComp elt [⟨tg, it, ifs, 0⟩] scope pos) (T.own B) r := fun w => by
  obtain ⟨wi, g, tt, te, h1, h2, h3, h4, h5, h6, h7⟩ := h.ex w
  exact (pe_lc (w.calm hc) w.nd h1 h2 h3 h4 h5 h6).weakI h7
/-- y = [..], y a local on the same line -/
theorem S_comp (i : Nat) {y : Str} {py spos : Pos} {scope : Scope} {own : List (Str × Nat)} {B : Dt β} {r : M (List β)} (h : CompOk X G Γ elt tg it ifs scope own B r) (hc : G.c = true := by rfl) (hy : X.N[i]? = some y := by rfl) (hyl : X.env.scope.names.lookup y = some .local := by rfl)
    (hsw : swapsWith (.ListComp elt [⟨tg, it, ifs, 0⟩] scope pos) (some (.Name y py)) spos.line X.env = pure true := by exact sw_true rfl rfl rfl (by decide +kernel)) : JS X G Γ (.Assign [.Name y py] (.ListComp elt [⟨tg, it, ifs, 0⟩] scope pos) spos) R (fun a => .nx (put (eO i B a) Γ)) r := fun w => by
  obtain ⟨wi, g, tt, te, h1, h2, h3, h4, h5, h6, h7⟩ := h.ex w
  refine (ps_setLc (w.calm hc) w.nd hy hyl hsw h1 h2 h3 h4 h5 h6).weakI fun E σ H hl ⟨H0, D0, D, os, hr, x, hx, hp⟩ => h7 σ H _ hl ⟨H0, D0, D, os, hr, x, hx, ?_⟩
  cases x with
  | ex e => exact fun c d => hp c d σ
  | ok t =>
    intro v H' D' fp e r f
    have hi : i < σ.length := by rw [hl]; exact (List.getElem?_eq_some_iff.mp hy).1
    obtain ⟨os', q⟩ := (hr.grow e).put (st := own_st B) hi hr.ext.h (fun p h => (hr.own p h).2.2) r f
    exact hp _ H' D' os' q
theorem frz_weak {K : Fr} {mg : Str → Option Value} {A : Dt α} {r : M (List α)} {σ : L2.St} {H : Hp} {Q : VK} (h : tE K mg G Γ (dat (tLst A)) r σ H Q) : tE K mg G Γ (own A) r σ H Q := by
  obtain ⟨H0, D0, D, os, hr, x, hx, hp⟩ := h
  refine ⟨H0, D0, D, os, hr, x, hx, ?_⟩
  cases x with
  | ex e => exact hp
  | ok xs =>
    intro v H' D' fp e ⟨p, vs, r1, r2, r3, r4⟩ f
    subst r1; subst r2
    obtain ⟨f1, f2, f3⟩ := f.2 p List.mem_cons_self
    have hup : Le D' (upd D' p (.lst vs)) := fun b o z => by rw [upd_ne (ne_of_none z f2)]; exact z
    refine hp (.ref p) H' (upd D' p (.lst vs)) [] ⟨e.h, e.d.trans hup, fun b o z => ?_, fun b h1 h2 => ?_⟩ ⟨rfl, p, vs, rfl, upd_same, A.monos hup r4⟩ .nil
    · by_cases q : b = p
      · subst q; rw [upd_same] at z; cases z; exact r3
      · rw [upd_ne q] at z; exact e.dh b o z
    · by_cases q : b = p
      · subst q; exact absurd f1 h2
      · rw [upd_ne q]; exact e.out b h1 h2
theorem S_compF (i : Nat) {y : Str} {py spos : Pos} {scope : Scope} {own : List (Str × Nat)} {B : Dt β} {r : M (List β)} (h : CompOk X G Γ elt tg it ifs scope own B r) (hc : G.c = true := by rfl) (hy : X.N[i]? = some y := by rfl) (hyl : X.env.scope.names.lookup y = some .local := by rfl)
    (hsw : swapsWith (.ListComp elt [⟨tg, it, ifs, 0⟩] scope pos) (some (.Name y py)) spos.line X.env = pure true := by exact sw_true rfl rfl rfl (by decide +kernel)) : JS X G Γ (.Assign [.Name y py] (.ListComp elt [⟨tg, it, ifs, 0⟩] scope pos) spos) R (fun a => .nx (put (eD i (tLst B) a) Γ)) r := fun w => by
  obtain ⟨wi, g, tt, te, h1, h2, h3, h4, h5, h6, h7⟩ := h.ex w
  refine (ps_setLc (w.calm hc) w.nd hy hyl hsw h1 h2 h3 h4 h5 h6).weakI fun E σ H hl ⟨H0, D0, D, os, hr, x, hx, hp⟩ => h7 σ H _ hl (frz_weak ⟨H0, D0, D, os, hr, x, hx, ?_⟩)
  cases x with
  | ex e => exact fun c d => hp c d σ
  | ok t =>
    intro v H' D' fp e r f
    have hi : i < σ.length := by rw [hl]; exact (List.getElem?_eq_some_iff.mp hy).1
    obtain ⟨os', q⟩ := (hr.grow e).put (st := dat_st (tLst B)) hi hr.ext.h (fun p h => (hr.own p h).2.2) r f
    exact hp _ H' D' os' q
end

/-! ### a def -/
structure DefAt (K : Fr) (mg : Str → Option Value) (x : Str) (st : Stmt) : Prop where
  ex : ∃ f fd, Fun K x x st f fd ∧ mg x = some (.ref f)
def fPost {ρ : Type} (R : Rp ρ) (x : Rs ρ) : Dest ρ → Prop
  | .rt a => x = .ok a
  | .nx _ => ∃ a, x = .ok a ∧ ∀ K H D, R.rep K H D [] a .non
  | _ => False
theorem fn_of' {P : Program} {w : World} {K : Fr} {mg : Str → Option Value} {base : Heap} {x : Str} {st : Stmt} {f : Addr} {fd : FuncData} {N ps : List Str} {k : Nat} {τ ρ θ : Type} {B : Ap τ} {R : Rp ρ} {m : τ → M ρ} (Z : θ → Dest ρ) (fin : M θ → M ρ) (F : Fun K x x st f fd) (S : FnScope N ps (defScope st)) (hl : B.len = ps.length)
    (hz : ∀ (r : M θ) (x : Rs ρ), fin r = some x → ∃ y, r = some y ∧ ((∃ t, y = .ok t ∧ fPost R x (Z t)) ∨ ∃ e, y = .ex e ∧ x = .ex e))
    (body : ∀ (cdv : Value) (A : Around) (outer : List Env) (s : Shared) (H : Hp) (E : XK) (t : τ), ∃ r, m t = fin r ∧
      JB (cxOf (L2.CX P w) P w K mg base N x (defScope st) f cdv A outer s H E) ⟨fun c d _ H => E c d H, [], k, true⟩ (B.view 0 t) (defBody st) R Z r) : FnOk P w K mg base (L2.CX P w) (k + 1) f fd ps (spT K mg B R m) := by
  refine F.okX S (fun vs H Q E ⟨D, t, _, ht, _⟩ => by rw [Ap.length ht, hl]) fun cdv A outer s H vs Q E hr ⟨D, t, le, ht, x, hx, hq⟩ => ?_
  obtain ⟨r, hmr, hJ⟩ := body cdv A outer s H E t
  obtain ⟨y, hy, hzy⟩ := hz r x (hmr ▸ hx)
  refine ⟨_, hJ ⟨takes_of rfl rfl rfl rfl, S.nd, fun _ => hr, fun _ => rfl, hr.units, passes_of rfl⟩, ?_⟩
  refine ⟨H, D, D, [], ⟨Ext.refl le, (fun _ z => nomatch z), List.nodup_nil, ?_⟩, y, hy, ?_⟩
  · exact Ap.hold (more := List.replicate (N.length - vs.length) none) [] ht
  · rcases hzy with ⟨t, rfl, hz⟩ | ⟨e, rfl, rfl⟩
    · refine jPost.of rfl ?_
      cases z : Z t with
      | rt a =>
        rw [z] at hz
        cases (show x = .ok a from hz)
        exact fun v H' D' fp e r f => hq v H' D' fp e r f
      | nx Γ' =>
        rw [z] at hz
        obtain ⟨a, rfl, ha⟩ := (show ∃ a, x = .ok a ∧ ∀ K H D, R.rep K H D [] a .non from hz)
        exact fun σ' H' D' os' r => hq .non H' D' [] r.ext (ha _ _ _) .nil
      | bk _ => rw [z] at hz; exact False.elim hz
      | ct _ => rw [z] at hz; exact False.elim hz
    · exact fun c d σ' H' D' os' r => hq c d H' D' r.ext
/-- a def that hands back on every way -/
theorem fn_ret {P : Program} {w : World} {K : Fr} {mg : Str → Option Value} {base : Heap} {x : Str} {st : Stmt} {f : Addr} {fd : FuncData} {N ps : List Str} {k : Nat} {τ ρ : Type} {B : Ap τ} {R : Rp ρ} {m : τ → M ρ} (F : Fun K x x st f fd) (S : FnScope N ps (defScope st)) (hl : B.len = ps.length)
    (body : ∀ (cdv : Value) (A : Around) (outer : List Env) (s : Shared) (H : Hp) (E : XK) (t : τ),
      JB (cxOf (L2.CX P w) P w K mg base N x (defScope st) f cdv A outer s H E) ⟨fun c d _ H => E c d H, [], k, true⟩ (B.view 0 t) (defBody st) R (fun a => .rt a) (m t)) : FnOk P w K mg base (L2.CX P w) (k + 1) f fd ps (spT K mg B R m) :=
  fn_of' (fun a => .rt a) (fun r => r) F S hl (fun r x hx => ⟨x, hx, by cases x with | ok a => exact .inl ⟨a, rfl, rfl⟩ | ex e => exact .inr ⟨e, rfl, rfl⟩⟩) fun cdv A outer s H E t => ⟨_, rfl, body cdv A outer s H E t⟩
/-- .. as its callers know it -/
theorem fx_ret {P : Program} {w : World} {K : Fr} {mg : Str → Option Value} {base : Heap} {x : Str} {st : Stmt} (N ps : List Str) {k : Nat} {τ ρ : Type} {B : Ap τ} {R : Rp ρ} {m : τ → M ρ} (h : DefAt K mg x st) (S : FnScope N ps (defScope st)) (hl : B.len = ps.length)
    (hb : ∀ (kV doc pm : Value) (an : Option Addr) (cdv ct : Value) (us : List Value), us.length = ps.length → bindArgs (PySem.W.fnOf x x (defArgs st) (defBody st) (defScope st) .none kV doc pm an cdv ct) ⟨us, []⟩ = pure (ps.zip us))
    (body : ∀ (cdv : Value) (f : Addr) (A : Around) (outer : List Env) (s : Shared) (H : Hp) (E : XK) (t : τ),
      JB (cxOf (L2.CX P w) P w K mg base N x (defScope st) f cdv A outer s H E) ⟨fun c d _ H => E c d H, [], k, true⟩ (B.view 0 t) (defBody st) R (fun a => .rt a) (m t)) : Fx P w K mg base x (k + 1) B R m := by
  obtain ⟨f, fd, F, hm⟩ := h.ex
  exact ⟨f, fd, ps, fn_ret F S hl fun cdv A outer s H E t => body cdv f A outer s H E t, hm, F.kp, F.binds hb⟩
theorem fx_stuck {P : Program} {w : World} {K : Fr} {mg : Str → Option Value} {base : Heap} {x : Str} {st : Stmt} {k : Nat} {τ ρ : Type} {B : Ap τ} {R : Rp ρ} (h : DefAt K mg x st) (hb : ∃ ps : List Str, ∀ (kV doc pm : Value) (an : Option Addr) (cdv ct : Value) (us : List Value), us.length = ps.length → bindArgs (PySem.W.fnOf x x (defArgs st) (defBody st) (defScope st) .none kV doc pm an cdv ct) ⟨us, []⟩ = pure (ps.zip us)) : Fx P w K mg base x k B R (fun _ => stuck) := by
  obtain ⟨f, fd, F, hm⟩ := h.ex
  obtain ⟨ps, hb⟩ := hb
  exact ⟨f, fd, ps, ⟨fun vs H Q E ⟨_, _, _, _, _, hx, _⟩ => (nomatch hx), fun A outer s H args us vs Q E hr e0 b r ⟨_, _, _, _, _, hx, _⟩ => (nomatch hx)⟩, hm, F.kp, F.binds hb⟩
theorem defAt_mk {K : Fr} {mg : Str → Option Value} {h : Heap} {x : Str} {st : Stmt} {f : Addr} {oc : Value} {od an : Option Addr} {osl : Array (Option Value)} {kV doc pm cdv ct : Value} (X : K.In h) (G : h.Ns mainGlobals mg) (a : PySem.W.nsIn K mainGlobals x = some (some (.ref f)))
    (l : K.lookup f = some ⟨oc, od, .func (PySem.W.fnOf x x (defArgs st) (defBody st) (defScope st) .none kV doc pm an cdv ct), osl⟩) (c : PySem.W.codeIn K cdv x = true) (k : PySem.W.keepIn K (.ref f) = true) : DefAt K mg x st :=
  ⟨f, _, fun_mk l c k, PySem.W.mg_of X G a⟩
/-- the law's promise, as the end wants it -/
def spLaw (K : Fr) : Sp := fun vs H Q _ => ∃ (a : Addr) (ns : List Int), vs = [.ref a] ∧ SqL K H a (ns.map V.int) ∧ ns.length ≤ 63 ∧ ∀ H', Q (.bl true) H'
theorem spLaw_of {K : Fr} {mg : Str → Option Value} {m : List Int × Unit → M Bool} (hm : ∀ ns : List Int, ns.length ≤ 63 → m (ns, ()) = ok true) (vs : List L2.V) (H : Hp) (Q : VK) (E : XK) (h : spLaw K vs H Q E) : spT K mg (.cons tScr .nil) (dat tBool) m vs H Q E := by
  obtain ⟨a, ns, rfl, hS, hl, q⟩ := h
  refine ⟨H, (ns, ()), Same.refl _, ⟨.ref a, [], rfl, ⟨a, rfl, hS⟩, rfl⟩, .ok true, hm ns hl, fun v H' D' fp e ⟨_, hv⟩ f => ?_⟩
  cases (show v = V.bl true from hv)
  exact q H'
theorem law_fd {P : Program} {w : World} {K : Fr} {mg : Str → Option Value} {st : Stmt} {x : Str} {k : Nat} {fa : Addr} {m : List Int × Unit → M Bool} (D : DefAt K mg "law" st) (hfa : mg "law" = some (.ref fa))
    (hb : ∀ (kV doc pm : Value) (an : Option Addr) (cdv ct : Value) (s : Shared) (u : Value), BindsTo s (PySem.W.fnOf "law" "law" (defArgs st) (defBody st) (defScope st) .none kV doc pm an cdv ct) ⟨[u], []⟩ [(x, u)])
    (hm : ∀ ns : List Int, ns.length ≤ 63 → m (ns, ()) = ok true)
    (F : ∀ (base : Heap) (f : Addr) (fd : FuncData), Fun K "law" "law" st f fd → FnOk P w K mg base (L2.CX P w) k f fd [x] (spT K mg (.cons tScr .nil) (dat tBool) m)) :
    ∃ fd : FuncData, (∀ (s : Shared) (u : Value), BindsTo s fd ⟨[u], []⟩ [(x, u)]) ∧ ∀ base : Heap, K.In base → base.Ns mainGlobals mg → FnOk P w K mg base (L2.CX P w) k fa fd [x] (spLaw K) := by
  obtain ⟨f, fd, Fn, hf⟩ := D.ex
  cases (hfa.symm.trans hf)
  refine ⟨fd, ?_, fun base _ _ => (F base fa fd Fn).imp (spLaw_of hm)⟩
  obtain ⟨oc, od, kV, doc, pm, an, cdv, ct, osl, rfl, lk, hcd⟩ := Fn.ex
  exact hb kV doc pm an cdv ct
theorem cx_no {P : Program} {w : World} (H : Hp) (s : Shared) (e : Value) (s' : Shared) : L2.CX P w [] H s (fun _ _ _ => False) e s' → False := fun h => by
  obtain ⟨_, _, _, _, _, _, _, _, _, _, _, _, z⟩ := h
  exact z.elim
end T

set_option maxRecDepth 100000
set_option maxHeartbeats 4000000
namespace T
open PySem PySem.Spec PyProof.Rows L2

/-! ### data, compared -/
structure Enc {α : Type} [DecidableEq α] (A : Dt α) where
  toD : α → PyData
  dp : ∀ {K : Fr} {H : Hp} {a : α} {v : L2.V}, A.rep K H a v → Dp K H v (toD a)
  plain : ∀ a, (toD a).plain = true
  eqv : ∀ a b, PyData.eqv (toD a) (toD b) = decide (a = b)
  depth : Nat
  depth_le : ∀ a, (toD a).depth ≤ depth
def eInt : Enc tInt := ⟨PyData.int, fun {K H a v} h => by cases (show v = V.int a from h); exact .int a, fun _ => rfl, fun a b => by simp only [PyData.eqv]; exact PySem.W.beq_decide a b, 0, fun _ => Nat.le_refl _⟩
def eBool : Enc tBool := ⟨PyData.bool, fun {K H a v} h => by cases (show v = V.bl a from h); exact .bl a, fun _ => rfl, fun a b => by simp only [PyData.eqv]; exact PySem.W.beq_decide a b, 0, fun _ => Nat.le_refl _⟩
def eStr : Enc tStr := ⟨PyData.str, fun {K H a v} h => by cases (show v = V.str a from h); exact .str a, fun _ => rfl, fun a b => by simp only [PyData.eqv]; exact PySem.W.beq_decide a b, 0, fun _ => Nat.le_refl _⟩
section
variable {α β γ : Type} [DecidableEq α] [DecidableEq β] [DecidableEq γ] {A : Dt α} {B : Dt β} {C : Dt γ}
theorem Enc.dps (e : Enc A) {K : Fr} {H : Hp} : ∀ {xs : List α} {vs : List L2.V}, Paired (A.rep K H) xs vs → DpAll K H vs (xs.map e.toD)
  | _, _, .nil => .nil
  | _, _, .cons r t => .cons (e.dp r) (Enc.dps e t)
theorem Enc.plains (e : Enc A) : ∀ xs : List α, PyData.plainAll (xs.map e.toD) = true
  | [] => rfl
  | x :: xs => by rw [List.map_cons, PyData.plainAll, e.plain x, Enc.plains e xs]; rfl
theorem Enc.depths (e : Enc A) : ∀ xs : List α, PyData.depthAll (xs.map e.toD) ≤ e.depth
  | [] => Nat.zero_le _
  | x :: xs => by rw [List.map_cons, PyData.depthAll]; exact Nat.max_le.mpr ⟨e.depth_le x, Enc.depths e xs⟩
theorem Enc.eqvs (e : Enc A) : ∀ xs ys : List α, PyData.eqvAll (xs.map e.toD) (ys.map e.toD) = decide (xs = ys)
  | [], [] => by simp only [List.map_nil, PyData.eqvAll, decide_true]
  | [], _ :: _ => by simp [PyData.eqvAll]
  | _ :: _, [] => by simp [PyData.eqvAll]
  | x :: xs, y :: ys => by
    rw [List.map_cons, List.map_cons, PyData.eqvAll, e.eqv x y, Enc.eqvs e xs ys, ← Bool.decide_and]
    exact decide_eq_decide.mpr (by rw [List.cons.injEq])
def eRow (e : Enc A) : Enc (tRow A) := ⟨fun xs => .tuple (xs.map e.toD), fun {K H a v} h => by
    obtain ⟨p, vs, rfl, h1, h2⟩ := h
    exact .tup h1 (e.dps h2), fun xs => by simp only [PyData.plain]; exact e.plains xs, fun xs ys => by simp only [PyData.eqv]; exact e.eqvs xs ys, e.depth + 1, fun xs => by simp only [PyData.depth]; exact Nat.succ_le_succ (e.depths xs)⟩
def eLst (e : Enc A) : Enc (tLst A) := ⟨fun xs => .list (xs.map e.toD), fun {K H a v} h => by
    obtain ⟨p, vs, rfl, h1, h2⟩ := h
    exact .lst (SqL.of h1) (e.dps h2), fun xs => by simp only [PyData.plain]; exact e.plains xs, fun xs ys => by simp only [PyData.eqv]; exact e.eqvs xs ys, e.depth + 1, fun xs => by simp only [PyData.depth]; exact Nat.succ_le_succ (e.depths xs)⟩
def eRec2 (e : Enc A) (f : Enc B) : Enc (tRec2 A B) := ⟨fun x => .tuple [e.toD x.1, f.toD x.2], fun {K H a v} h => by
    obtain ⟨p, v1, v2, rfl, h1, h2, h3⟩ := h
    exact .tup h1 (.cons (e.dp h2) (.cons (f.dp h3) .nil)), fun x => by simp only [PyData.plain, PyData.plainAll, e.plain, f.plain, Bool.and_self], fun p q => by
    simp only [PyData.eqv, PyData.eqvAll]
    rw [e.eqv, f.eqv, Bool.and_true, ← Bool.decide_and]
    exact decide_eq_decide.mpr ⟨fun e => Prod.ext e.1 e.2, fun e => by rw [e]; exact ⟨rfl, rfl⟩⟩, max e.depth f.depth + 1, fun x => by
    simp only [PyData.depth, PyData.depthAll]
    refine Nat.succ_le_succ (Nat.max_le.mpr ⟨Nat.le_trans (e.depth_le x.1) (Nat.le_max_left _ _), Nat.max_le.mpr ⟨Nat.le_trans (f.depth_le x.2) (Nat.le_max_right _ _), Nat.zero_le _⟩⟩)⟩
def eRec3 (e : Enc A) (f : Enc B) (g : Enc C) : Enc (tRec3 A B C) := ⟨fun x => .tuple [e.toD x.1, f.toD x.2.1, g.toD x.2.2], fun {K H a v} h => by
    obtain ⟨p, v1, v2, v3, rfl, h1, h2, h3, h4⟩ := h
    exact .tup h1 (.cons (e.dp h2) (.cons (f.dp h3) (.cons (g.dp h4) .nil))), fun x => by simp only [PyData.plain, PyData.plainAll, e.plain, f.plain, g.plain, Bool.and_self], fun p q => by
    simp only [PyData.eqv, PyData.eqvAll]
    rw [e.eqv, f.eqv, g.eqv, Bool.and_true, ← Bool.decide_and, ← Bool.decide_and]
    exact decide_eq_decide.mpr ⟨fun e => Prod.ext e.1 (Prod.ext e.2.1 e.2.2), fun e => by rw [e]; exact ⟨rfl, rfl, rfl⟩⟩, max e.depth (max f.depth g.depth) + 1, fun x => by
    simp only [PyData.depth, PyData.depthAll]
    have := e.depth_le x.1
    have := f.depth_le x.2.1
    have := g.depth_le x.2.2
    omega⟩
def toO (e : Enc A) : Option α → PyData
  | none => .none
  | some a => e.toD a
/-- what may be None: the others are none -/
def eOpt (e : Enc A) (nn : ∀ a, PyData.eqv .none (e.toD a) = false ∧ PyData.eqv (e.toD a) .none = false) : Enc (tOpt A) := ⟨toO e, fun {K H a v} h => by
    cases a with
    | none => cases (show v = V.non from h); exact .non
    | some a => exact e.dp h.2, fun a => by cases a with
    | none => rfl
    | some a => exact e.plain a, fun a b => by
    cases a with
    | none => cases b with
      | none => simp [toO, PyData.eqv]
      | some b => rw [show PyData.eqv (toO e none) (toO e (some b)) = false from (nn b).1]; simp
    | some a => cases b with
      | none => rw [show PyData.eqv (toO e (some a)) (toO e none) = false from (nn a).2]; simp
      | some b => rw [show PyData.eqv (toO e (some a)) (toO e (some b)) = decide (a = b) from e.eqv a b]; simp, e.depth, fun a => by cases a with
    | none => exact Nat.zero_le _
    | some a => exact e.depth_le a⟩
/-- a reading as data -/
def RepD (R : Rp α) (toD : α → PyData) : Prop := ∀ {K : Fr} {H D : Hp} {fp : List Addr} {a : α} {v : L2.V}, Le D H → R.rep K H D fp a v → Dp K H v (toD a)
theorem SqLT.mono {K : Fr} {H H' : Hp} (e : Le H H') : True := trivial
mutual
theorem Dp.mono {K : Fr} {H H' : Hp} (e : Le H H') : ∀ {v : L2.V} {d : PyData}, Dp K H v d → Dp K H' v d
  | _, _, .non => .non
  | _, _, .bl b => .bl b
  | _, _, .int i => .int i
  | _, _, .str x => .str x
  | _, _, .lst h1 h2 => .lst (Same.seq e h1) (DpAll.mono e h2)
  | _, _, .tup h1 h2 => .tup (SqT.mono e h1) (DpAll.mono e h2)
theorem DpAll.mono {K : Fr} {H H' : Hp} (e : Le H H') : ∀ {vs : List L2.V} {ds : List PyData}, DpAll K H vs ds → DpAll K H' vs ds
  | _, _, .nil => .nil
  | _, _, .cons h1 h2 => .cons (Dp.mono e h1) (DpAll.mono e h2)
end
theorem repD_dat (e : Enc A) : RepD (dat A) e.toD := fun le h => Dp.mono le (e.dp h.2)
theorem repD_bor (e : Enc A) : RepD (bor A) (eLst e).toD := fun le ⟨_, p, vs, h1, h2, h3⟩ => by
  subst h1
  exact .lst h2 (DpAll.mono le (e.dps h3))
end
section
variable {X : Cx} {G : Ctx} {Γ : Vw} {α β γ : Type} {a b c : Expr} {pos : Pos}
def rEqP (K : Fr) (k : Nat) : R2 := fun x y H Q => ∃ d e, Dp K H x d ∧ Dp K H y e ∧ d.plain = true ∧ e.plain = true ∧ d.depth ≤ k ∧ Q (.bl (PyData.eqv d e)) H
def rNeP (K : Fr) (k : Nat) : R2 := fun x y H Q => ∃ d e, Dp K H x d ∧ Dp K H y e ∧ d.plain = true ∧ e.plain = true ∧ d.depth ≤ k ∧ Q (.bl (!PyData.eqv d e)) H
theorem op_eqP {k : Nat} (hu : X.A.units + k < cLine) : OpR X (compareOp .Eq) (rEqP X.K k) := by
  intro pins s σ H x y v u Q I rx ry ⟨d, e, hd, he, sd, se, dk, q⟩
  obtain ⟨as, r1⟩ := Dp.reads I d x v hd rx
  obtain ⟨bs, r2⟩ := Dp.reads I e y u he ry
  exact PySem.SeqAt.eq_plain r1 r2 sd se (PySem.W.room_datum dk hu) ⟨.bl _, H, I, rfl, q⟩
theorem op_neP {k : Nat} (hu : X.A.units + k < cLine) : OpR X (compareOp .NotEq) (rNeP X.K k) := by
  intro pins s σ H x y v u Q I rx ry ⟨d, e, hd, he, sd, se, dk, q⟩
  obtain ⟨as, r1⟩ := Dp.reads I d x v hd rx
  obtain ⟨bs, r2⟩ := Dp.reads I e y u he ry
  exact PySem.SeqAt.ne_plain r1 r2 sd se (PySem.W.room_datum dk hu) ⟨.bl _, H, I, rfl, q⟩
theorem Wf.un (w : Wf X G) {k : Nat} (h : k ≤ 60) : X.A.units + k < cLine := by have := w.hu; omega
variable [DecidableEq α]
theorem cp_eqP (K : Fr) {A : Dt α} {R R' : Rp α} (e : Enc A) (h1 : RepD R e.toD) (h2 : RepD R' e.toD) : Cp2 K (rEqP K e.depth) R R' fun x y => decide (x = y) := fun H D a b va vb fa fb Q le r1 r2 q =>
  ⟨e.toD a, e.toD b, h1 le r1, h2 le r2, e.plain a, e.plain b, e.depth_le a, by rw [e.eqv]; exact q⟩
theorem cp_neP (K : Fr) {A : Dt α} {R R' : Rp α} (e : Enc A) (h1 : RepD R e.toD) (h2 : RepD R' e.toD) : Cp2 K (rNeP K e.depth) R R' fun x y => !decide (x = y) := fun H D a b va vb fa fb Q le r1 r2 q =>
  ⟨e.toD a, e.toD b, h1 le r1, h2 le r2, e.plain a, e.plain b, e.depth_le a, by rw [e.eqv]; exact q⟩
theorem E_eqP {A : Dt α} {R R' : Rp α} {ra rb : M α} (e : Enc A) (h1 : RepD R e.toD) (h2 : RepD R' e.toD) (hd : e.depth ≤ 60) (ha : ET X G Γ a R ra) (hb : ET X G Γ b R' rb) : ET X G Γ (.Compare a [.Eq] [b] pos) (dat tBool) (ra.bind fun x => rb.bind fun y => ok (decide (x = y))) := fun w =>
  E_cmp (op_eqP (w.un hd)) (cp_eqP X.K e h1 h2) (nomark _) ha hb w
theorem E_neP {A : Dt α} {R R' : Rp α} {ra rb : M α} (e : Enc A) (h1 : RepD R e.toD) (h2 : RepD R' e.toD) (hd : e.depth ≤ 60) (ha : ET X G Γ a R ra) (hb : ET X G Γ b R' rb) : ET X G Γ (.Compare a [.NotEq] [b] pos) (dat tBool) (ra.bind fun x => rb.bind fun y => ok (!decide (x = y))) := fun w =>
  E_cmp (op_neP (w.un hd)) (cp_neP X.K e h1 h2) (nomark _) ha hb w
theorem B_eqP {A : Dt α} {R R' : Rp α} {ra rb : M α} (e : Enc A) (h1 : RepD R e.toD) (h2 : RepD R' e.toD) (hd : e.depth ≤ 60) (ha : ET X G Γ a R ra) (hb : ET X G Γ b R' rb) : BT X G Γ (.Compare a [.Eq] [b] pos) (ra.bind fun x => rb.bind fun y => ok (decide (x = y))) := fun w =>
  B_cmp (op_eqP (w.un hd)) (cp_eqP X.K e h1 h2) (nomark _) ha hb w
theorem B_neP {A : Dt α} {R R' : Rp α} {ra rb : M α} (e : Enc A) (h1 : RepD R e.toD) (h2 : RepD R' e.toD) (hd : e.depth ≤ 60) (ha : ET X G Γ a R ra) (hb : ET X G Γ b R' rb) : BT X G Γ (.Compare a [.NotEq] [b] pos) (ra.bind fun x => rb.bind fun y => ok (!decide (x = y))) := fun w =>
  B_cmp (op_neP (w.un hd)) (cp_neP X.K e h1 h2) (nomark _) ha hb w
/-! x in xs -/
def rInP (K : Fr) (k : Nat) (neg : Bool) : R2 := fun x y H Q => ∃ (d : PyData) (ds : List PyData) (p : Addr) (vs : List L2.V), y = .ref p ∧ (SqL K H p vs ∨ SqT K H p vs) ∧ DpAll K H vs ds ∧ Dp K H x d ∧ PyData.plainAll ds = true ∧ d.plain = true ∧ PyData.depthAll ds ≤ k ∧
  Q (.bl (if neg then !(ds.any fun z => PyData.eqv z d) else ds.any fun z => PyData.eqv z d)) H
theorem op_inP {k : Nat} (hu : X.A.units + 1 + k < cLine) : OpR X (compareOp .In) (rInP X.K k false) := by
  intro pins s σ H x y v u Q I rx ry ⟨d, ds, p, vs, ey, hs, ha, hx, pl, pd, dk, q⟩
  subst ey
  cases ry
  obtain ⟨bs, r1⟩ := Dp.reads I d x v hx rx
  have q' : EP X pins σ Q (.bool (ds.any fun z => PyData.eqv z d)) s := ⟨.bl _, H, I, rfl, q⟩
  rcases hs with hs | hs
  · obtain ⟨its, rv, ⟨o, n, ho, hc, _, hd⟩, _⟩ := I.list hs
    obtain ⟨as, hr⟩ := Dp.readsAll I ds _ its ha rv
    exact PySem.SeqAt.in_list_data (.list ho hc hd hr) r1 pl pd (PySem.W.room_items dk hu) q'
  · obtain ⟨its, rv, ⟨o, ho, hc, n, hd⟩, _⟩ := I.tuple hs
    obtain ⟨as, hr⟩ := Dp.readsAll I ds _ its ha rv
    exact PySem.SeqAt.in_tuple_data (.tuple ho hc hd hr) r1 pl pd (PySem.W.room_items dk hu) q'
theorem op_notInP {k : Nat} (hu : X.A.units + 1 + k < cLine) : OpR X (compareOp .NotIn) (rInP X.K k true) := by
  intro pins s σ H x y v u Q I rx ry ⟨d, ds, p, vs, ey, hs, ha, hx, pl, pd, dk, q⟩
  subst ey
  cases ry
  obtain ⟨bs, r1⟩ := Dp.reads I d x v hx rx
  have q' : EP X pins σ Q (.bool (!(ds.any fun z => PyData.eqv z d))) s := ⟨.bl _, H, I, rfl, q⟩
  rcases hs with hs | hs
  · obtain ⟨its, rv, ⟨o, n, ho, hc, _, hd⟩, _⟩ := I.list hs
    obtain ⟨as, hr⟩ := Dp.readsAll I ds _ its ha rv
    exact PySem.SeqAt.notIn_list_data (.list ho hc hd hr) r1 pl pd (PySem.W.room_items dk hu) q'
  · obtain ⟨its, rv, ⟨o, ho, hc, n, hd⟩, _⟩ := I.tuple hs
    obtain ⟨as, hr⟩ := Dp.readsAll I ds _ its ha rv
    exact PySem.SeqAt.notIn_tuple_data (.tuple ho hc hd hr) r1 pl pd (PySem.W.room_items dk hu) q'
theorem any_enc {A : Dt α} (e : Enc A) (xs : List α) (x : α) : ((xs.map e.toD).any fun d => PyData.eqv d (e.toD x)) = decide (x ∈ xs) := by
  rw [List.any_map, Bool.eq_iff_iff, List.any_eq_true, decide_eq_true_eq]
  constructor
  · rintro ⟨y, hy, z⟩
    have z : PyData.eqv (e.toD y) (e.toD x) = true := z
    rw [e.eqv, decide_eq_true_eq] at z
    exact z ▸ hy
  · intro hx
    refine ⟨x, hx, ?_⟩
    show PyData.eqv (e.toD x) (e.toD x) = true
    rw [e.eqv, decide_eq_true_eq]
theorem cp_inL (K : Fr) {A : Dt α} (e : Enc A) : Cp2 K (rInP K e.depth false) (dat A) (bor A) fun x xs => decide (x ∈ xs) := fun H D a b va vb fa fb Q le ⟨_, r1⟩ ⟨_, p, vs, z, h1, h2⟩ q =>
  ⟨e.toD a, b.map e.toD, p, vs, z, .inl h1, DpAll.mono le (e.dps h2), Dp.mono le (e.dp r1), e.plains b, e.plain a, e.depths b, by rw [any_enc]; exact q⟩
theorem cp_inT (K : Fr) {A : Dt α} (e : Enc A) : Cp2 K (rInP K e.depth false) (dat A) (dat (tRow A)) fun x xs => decide (x ∈ xs) := fun H D a b va vb fa fb Q le ⟨_, r1⟩ ⟨_, p, vs, z, h1, h2⟩ q =>
  ⟨e.toD a, b.map e.toD, p, vs, z, .inr (SqT.mono le h1), DpAll.mono le (e.dps h2), Dp.mono le (e.dp r1), e.plains b, e.plain a, e.depths b, by rw [any_enc]; exact q⟩
theorem cp_niL (K : Fr) {A : Dt α} (e : Enc A) : Cp2 K (rInP K e.depth true) (dat A) (bor A) fun x xs => !decide (x ∈ xs) := fun H D a b va vb fa fb Q le ⟨_, r1⟩ ⟨_, p, vs, z, h1, h2⟩ q =>
  ⟨e.toD a, b.map e.toD, p, vs, z, .inl h1, DpAll.mono le (e.dps h2), Dp.mono le (e.dp r1), e.plains b, e.plain a, e.depths b, by rw [any_enc]; exact q⟩
theorem cp_niT (K : Fr) {A : Dt α} (e : Enc A) : Cp2 K (rInP K e.depth true) (dat A) (dat (tRow A)) fun x xs => !decide (x ∈ xs) := fun H D a b va vb fa fb Q le ⟨_, r1⟩ ⟨_, p, vs, z, h1, h2⟩ q =>
  ⟨e.toD a, b.map e.toD, p, vs, z, .inr (SqT.mono le h1), DpAll.mono le (e.dps h2), Dp.mono le (e.dp r1), e.plains b, e.plain a, e.depths b, by rw [any_enc]; exact q⟩
theorem B_inL {A : Dt α} {ra : M α} {rb : M (List α)} (e : Enc A) (hd : e.depth ≤ 59) (ha : ET X G Γ a (dat A) ra) (hb : ET X G Γ b (bor A) rb) (hm : behindInMarks .In b = false := by rfl) : BT X G Γ (.Compare a [.In] [b] pos) (ra.bind fun x => rb.bind fun y => ok (decide (x ∈ y))) := fun w =>
  B_cmp (op_inP (by have := w.hu; omega)) (cp_inL X.K e) hm ha hb w
theorem B_inT {A : Dt α} {ra : M α} {rb : M (List α)} (e : Enc A) (hd : e.depth ≤ 59) (ha : ET X G Γ a (dat A) ra) (hb : ET X G Γ b (dat (tRow A)) rb) (hm : behindInMarks .In b = false := by rfl) : BT X G Γ (.Compare a [.In] [b] pos) (ra.bind fun x => rb.bind fun y => ok (decide (x ∈ y))) := fun w =>
  B_cmp (op_inP (by have := w.hu; omega)) (cp_inT X.K e) hm ha hb w
theorem B_niL {A : Dt α} {ra : M α} {rb : M (List α)} (e : Enc A) (hd : e.depth ≤ 59) (ha : ET X G Γ a (dat A) ra) (hb : ET X G Γ b (bor A) rb) (hm : behindInMarks .NotIn b = false := by rfl) : BT X G Γ (.Compare a [.NotIn] [b] pos) (ra.bind fun x => rb.bind fun y => ok (!decide (x ∈ y))) := fun w =>
  B_cmp (op_notInP (by have := w.hu; omega)) (cp_niL X.K e) hm ha hb w
theorem B_niT {A : Dt α} {ra : M α} {rb : M (List α)} (e : Enc A) (hd : e.depth ≤ 59) (ha : ET X G Γ a (dat A) ra) (hb : ET X G Γ b (dat (tRow A)) rb) (hm : behindInMarks .NotIn b = false := by rfl) : BT X G Γ (.Compare a [.NotIn] [b] pos) (ra.bind fun x => rb.bind fun y => ok (!decide (x ∈ y))) := fun w =>
  B_cmp (op_notInP (by have := w.hu; omega)) (cp_niT X.K e) hm ha hb w
theorem E_inL {A : Dt α} {ra : M α} {rb : M (List α)} (e : Enc A) (hd : e.depth ≤ 59) (ha : ET X G Γ a (dat A) ra) (hb : ET X G Γ b (bor A) rb) (hm : behindInMarks .In b = false := by rfl) : ET X G Γ (.Compare a [.In] [b] pos) (dat tBool) (ra.bind fun x => rb.bind fun y => ok (decide (x ∈ y))) := fun w =>
  E_cmp (op_inP (by have := w.hu; omega)) (cp_inL X.K e) hm ha hb w
theorem E_inT {A : Dt α} {ra : M α} {rb : M (List α)} (e : Enc A) (hd : e.depth ≤ 59) (ha : ET X G Γ a (dat A) ra) (hb : ET X G Γ b (dat (tRow A)) rb) (hm : behindInMarks .In b = false := by rfl) : ET X G Γ (.Compare a [.In] [b] pos) (dat tBool) (ra.bind fun x => rb.bind fun y => ok (decide (x ∈ y))) := fun w =>
  E_cmp (op_inP (by have := w.hu; omega)) (cp_inT X.K e) hm ha hb w
end

/-! ### isinstance of built-in classes -/
section
variable {X : Cx} {G : Ctx} {Γ : Vw} {α β γ : Type} {a b c : Expr} {pos : Pos}
def IsTy (A : Dt α) (T : String) : Prop := ∀ (K : Fr) (H : Hp) (x : α) (v : L2.V), A.rep K H x v → TyX K H v (.type T)
theorem ty_int : IsTy tInt "int" := fun K H x v h => by cases (show v = V.int x from h); exact .base (.int x)
theorem ty_bool : IsTy tBool "bool" := fun K H x v h => by cases (show v = V.bl x from h); exact .base (.bl x)
theorem ty_str : IsTy tStr "str" := fun K H x v h => by cases (show v = V.str x from h); exact .base (.str x)
theorem ty_none : IsTy tNone "NoneType" := fun K H x v h => by cases (show v = V.non from h); exact .base .non
theorem sqt_ty {K : Fr} {H : Hp} {p : Addr} {vs : List L2.V} (h : SqT K H p vs) : TyX K H (.ref p) (.type "tuple") := by
  rcases h with (h | ⟨o, h⟩) | ⟨o, its, n, h1, h2, _⟩
  · exact .base (.tup h)
  · exact .fTuple h
  · exact .kTuple h1 h2
theorem ty_row (A : Dt α) : IsTy (tRow A) "tuple" := fun K H x v ⟨p, vs, e, h, _⟩ => by subst e; exact sqt_ty h
theorem ty_lst (A : Dt α) : IsTy (tLst A) "list" := fun K H x v ⟨p, vs, e, h, _⟩ => by subst e; exact .base (.lst h)
theorem ty_rec2 (A : Dt α) (B : Dt β) : IsTy (tRec2 A B) "tuple" := fun K H x v ⟨p, v1, v2, e, h, _⟩ => by subst e; exact sqt_ty h
theorem ty_rec3 (A : Dt α) (B : Dt β) (C : Dt γ) : IsTy (tRec3 A B C) "tuple" := fun K H x v ⟨p, v1, v2, v3, e, h, _⟩ => by subst e; exact sqt_ty h
theorem TyX.mono {K : Fr} {H H' : Hp} {v : L2.V} {T : String} (e : Le H H') : TyX K H v (.type T) → TyX K H' v (.type T) := by
  intro h
  cases h with
  | base h =>
    cases h with
    | non => exact .base .non
    | bl b => exact .base (.bl b)
    | int i => exact .base (.int i)
    | str x => exact .base (.str x)
    | flt b => exact .base (.flt b)
    | lst h => exact .base (.lst (e _ _ h))
    | frz h => exact .base (.frz (e _ _ h))
    | tup h => exact .base (.tup (e _ _ h))
    | dK h => exact .base (.dK (e _ _ h))
    | dT h => exact .base (.dT (e _ _ h))
  | byt b => exact .byt b
  | set h => exact .set (e _ _ h)
  | kList h c => exact .kList h c
  | kTuple h c => exact .kTuple h c
  | kDict h c => exact .kDict h c
  | fTuple h => exact .fTuple (e _ _ h)
  | fDict h => exact .fDict (e _ _ h)
/-- a built-in class as a value -/
def tyR (C : String) : Rp Unit := ⟨fun _ _ _ fp _ v => fp = [] ∧ v = .ty C, fun _ _ h => h⟩
theorem E_ty {x : Str} (C : String) (hm : X.mg x = none) (hv : bootBuiltins x = some (.type C)) (hg : Gl X x := by rfl) (hn : x ≠ "__name__" := by decide) (hd : (x == ("__debug__" : Str)) = false := by decide) : ET X G Γ (.Name x pos) (tyR C) (ok ()) := fun w =>
  (pe_bltn (v := .ty C) hg hm hv rfl hn hd).weak fun σ H Q ⟨H0, D0, D, os, hr, x, hx, hp⟩ => by
    cases hx
    exact hp (.ty C) H D [] (Ext.refl hr.le) ⟨rfl, rfl⟩ .nil
theorem E_isi {A : Dt α} {T0 C : String} {x : Str} {r : Bool} {ra : M α} {p p2 : Pos} (hT : IsTy A T0) (hk : kitB T0 C = some r) (hm : X.mg "isinstance" = none) (hm2 : X.mg x = none) (hv : bootBuiltins x = some (.type C)) (ha : ET X G Γ a (dat A) ra)
    (hg : Gl X "isinstance" := by rfl) (hg2 : Gl X x := by rfl) (hn : x ≠ "__name__" := by decide) (hd : (x == ("__debug__" : Str)) = false := by decide)
    (hs1 : starEach [a, .Name x p2] X.env = (false, eval a X.env) :: starEach [.Name x p2] X.env := by rfl) (hs2 : starEach [.Name x p2] X.env = [(false, eval (.Name x p2) X.env)] := by rfl) (hpl : (backTo pos (starEach [.Name x p2] X.env)).any (·.1) = false := by rfl) :
    ET X G Γ (.Call (.Name "isinstance" p) [a, .Name x p2] [] pos) (dat tBool) (ra.bind fun _ => ok r) :=
  E_eq (E_bi2 (A := dat A) (B := tyR C) (R := dat tBool) (g := fun _ _ => ok r) call_isi (fun H D a b va vb fa fb c Q le ⟨_, h1⟩ ⟨_, h2⟩ hg k => by
    cases hg
    cases h2
    exact ⟨va, .ty C, _, _, r, rfl, .ty C, TyX.mono le (hT _ _ _ _ h1), kit_ty hk, k _ H D [] (Ext.refl le) ⟨rfl, rfl⟩ .nil⟩) nxok2 hm (by decide +kernel) ha (E_ty C hm2 hv hg2 hn hd) hg (by decide) (by decide) hs1 hs2 hpl) rfl
end
end T

set_option maxRecDepth 100000
set_option maxHeartbeats 4000000
namespace T
open PySem PySem.Spec PyProof.Rows L2
section
variable {X : Cx} {G : Ctx} {Γ : Vw} {α β γ δ τ ρ θ C C' : Type} {a b c e it tg : Expr} {pos : Pos} {st : Stmt} {rest B : List Stmt} {R : Rp ρ} {Z : θ → Dest ρ}
/-- a list of one's own is changed no more -/
theorem Rel.frz {K : Fr} {H0 D0 H D : Hp} {σ : L2.St} {os : List Addr} {i : Nat} {A : Dt α} {xs : List α} (hf : find i Γ = some (eO i A xs)) (r : Rel K H0 D0 Γ σ H D os) : ∃ D' os', Rel K H0 D0 (T.put (eD i (tLst A) xs) Γ) σ H D' os' ∧ Le D D' := by
  obtain ⟨fp, os', v, q1, ⟨p, vs, rfl, rfl, r3, r4⟩, q3, q4, q5⟩ := r.hold.find hf r.nd
  obtain ⟨h1, h2, h3⟩ := r.own p (q5 p (List.mem_append_left _ List.mem_cons_self))
  have hup : Le D (L2.upd D p (.lst vs)) := fun b o z => by rw [upd_ne (ne_of_none z h2)]; exact z
  have nd' := List.nodup_cons.mp q4
  refine ⟨L2.upd D p (.lst vs), os', ⟨⟨r.ext.h, r.ext.d.trans hup, fun b o z => ?_, fun b z1 z2 => ?_⟩, fun x hx => ?_, nd'.2, ⟨[], os', rfl, ⟨.ref p, q1, rfl, p, vs, rfl, upd_same, A.monos hup r4⟩, q3.agree (fun _ _ => rfl) hup⟩⟩, hup⟩
  · by_cases q : b = p
    · subst q; rw [upd_same] at z; cases z; exact r3
    · rw [upd_ne q] at z; exact r.ext.dh b o z
  · by_cases q : b = p
    · subst q; exact absurd h1 z2
    · rw [upd_ne q]; exact r.ext.out b z1 z2
  · obtain ⟨m1, m2, m3⟩ := r.own x (q5 x (List.mem_append_right _ hx))
    have : x ≠ p := fun z => nd'.1 (z ▸ hx)
    exact ⟨m1, by rw [upd_ne this]; exact m2, m3⟩
theorem J_frz (i : Nat) {A : Dt α} {xs : List α} {r : M θ} (h : JB X G (put (eD i (tLst A) xs) Γ) B R Z r) (hf : find i Γ = some (eO i A xs) := by rfl) : JB X G Γ B R Z r := fun w =>
  (h w).weak fun E σ H ⟨H0, D0, D, os, hr, x, hx, hp⟩ => by
    obtain ⟨D', os', q, _⟩ := hr.frz hf
    exact ⟨H0, D0, D', os', q, x, hx, hp⟩

theorem psz_w {xs : List α} (h : Nat.ble xs.length 16777216 = true) : psz xs = ok xs := grd_pos (by rw [sizeLine_eq]; exact Nat.le_of_ble_eq_true h) _
theorem nn_int {K : Fr} {H : Hp} {x : Int} {v : L2.V} (h : tInt.rep K H x v) : v ≠ .non := by rw [show v = V.int x from h]; exact fun z => nomatch z
theorem nn_row {K : Fr} {H : Hp} {A : Dt α} {x : List α} {v : L2.V} (h : (tRow A).rep K H x v) : v ≠ .non := by obtain ⟨p, vs, e, _⟩ := h; rw [e]; exact fun z => nomatch z
theorem nn_lst {K : Fr} {H : Hp} {A : Dt α} {x : List α} {v : L2.V} (h : (tLst A).rep K H x v) : v ≠ .non := by obtain ⟨p, vs, e, _⟩ := h; rw [e]; exact fun z => nomatch z
theorem nn_rec2 {K : Fr} {H : Hp} {A : Dt α} {B : Dt β} {x : α × β} {v : L2.V} (h : (tRec2 A B).rep K H x v) : v ≠ .non := by obtain ⟨p, v1, v2, e, _⟩ := h; rw [e]; exact fun z => nomatch z
theorem nn_rec3 {K : Fr} {H : Hp} {A : Dt α} {B : Dt β} {C : Dt γ} {x : α × β × γ} {v : L2.V} (h : (tRec3 A B C).rep K H x v) : v ≠ .non := by obtain ⟨p, v1, v2, v3, e, _⟩ := h; rw [e]; exact fun z => nomatch z
/-! ### more numbers -/
theorem E_mulK {i j c : Int} (h : MulOk i j) (hc : i * j = c) (ha : ET X G Γ a (dat tInt) (ok i)) (hb : ET X G Γ b (dat tInt) (ok j)) : ET X G Γ (.BinOp a .Mult b pos) (dat tInt) (ok c) :=
  E_eq (E_mul ha hb) (by show grd _ _ = _; rw [grd_pos h, hc])
theorem E_powK {i c : Int} (n : Nat) (h : i.natAbs < 2 ^ 64) (hn : n ≤ 1000000) (hc : i ^ n = c) (ha : ET X G Γ a (dat tInt) (ok i)) (hb : ET X G Γ b (dat tInt) (ok (n : Int))) : ET X G Γ (.BinOp a .Pow b pos) (dat tInt) (ok c) :=
  E_eq (E_powC n h hn ha hb) (by rw [hc])
def prangeI (j : Int) : M (List Int) := grd (-(2 ^ 62) ≤ j) (prange j)
theorem prangeI_nat {n : Nat} (h : n < 2 ^ 62) : prangeI (n : Int) = ok (rangeL 0 n) := by
  have h1 : -(2 ^ 62 : Int) ≤ (n : Int) := Int.le_trans (by decide) (Int.natCast_nonneg n)
  have h2 : (n : Int) < 2 ^ 62 := by
    have : ((2 ^ 62 : Nat) : Int) = 2 ^ 62 := by decide
    rw [← this]; exact Int.ofNat_lt.mpr h
  show grd _ (grd _ _) = _
  rw [grd_pos h1, grd_pos h2, Int.toNat_natCast]
theorem I_rangeI {ra : M Int} {p : Pos} (hm : X.mg "range" = none) (ha : ET X G Γ a (dat tInt) ra) (hg : Gl X "range" := by rfl) (hs : starEach [a] X.env = [(false, eval a X.env)] := by rfl) : ITR X G Γ tg (.Call (.Name "range" p) [a] [] pos) tInt (ra.bind prangeI) := I_range hm ha hg hs
theorem I_rangeK (n : Nat) {p : Pos} (h : n < 2 ^ 62) (hm : X.mg "range" = none) (ha : ET X G Γ a (dat tInt) (ok (n : Int))) (hg : Gl X "range" := by rfl) (hs : starEach [a] X.env = [(false, eval a X.env)] := by rfl) : ITR X G Γ tg (.Call (.Name "range" p) [a] [] pos) tInt (ok (rangeL 0 n)) :=
  I_eq (I_rangeI hm ha hg hs) ((bind_ok _ _).trans (prangeI_nat h))
theorem ip2_add : Ip2 X .Add (fun i j => ok (i + j)) := ⟨_, ip_add, fun H i j c Q e q => by cases e; exact ⟨i, j, rfl, rfl, q⟩⟩
theorem ip2_sub : Ip2 X .Sub (fun i j => ok (i - j)) := ⟨_, ip_sub, fun H i j c Q e q => by cases e; exact ⟨i, j, rfl, rfl, q⟩⟩

theorem C_map {scope : Scope} {own : List (Str × Nat)} {sl : List Nat} {elt : Expr} {A : Dt α} {B : Dt β} {u : α → Vw → Vw} {g : TG} {ri : M (List α)} {f : α → M β} (hi : ITR X G Γ tg it A ri)
    (hg : ∀ (s : Shared) (H : Hp) (C : Addr) (cl : List (Str × Addr)) (fp : List Addr), GT (X.blk s H scope (compEnvC scope cl C X.env) fp) tg sl A u g)
    (he : ∀ (s : Shared) (H : Hp) (C : Addr) (cl : List (Str × Addr)) (fp : List Addr) (x : α), ET (X.blk s H scope (compEnvC scope cl C X.env) fp) G.blk (u x (rmvs (own.map (·.2)) Γ)) elt (dat B) (f x))
    (hc : G.c = true := by rfl)
    (hok : blkC X.N X.env.scope scope own = true := by decide +kernel) (hsl : ∀ i ∈ sl, i ∈ own.map (·.2) := by decide) (hs : ∀ x, foldedSetIterable it X.env x = pure x := by intro _; rfl) : CompOk X G Γ elt tg it [] scope own B (ri.bind fun xs => mapC f xs) :=
  C_comp hi hg (fun _ _ _ _ _ _ => Bs_nil) he hc hok hsl hs

/-! ### None -/
theorem cp_isN (K : Fr) {A : Dt α} : Cp2 K (fun x y H Q => y = .non ∧ Q (.bl (decide (x = .non))) H) (dat (tOpt A)) (dat tNone) fun x _ => x.isNone := fun H D a b va vb fa fb Q le ⟨_, r1⟩ ⟨_, r2⟩ q => by
  refine ⟨r2, ?_⟩
  cases a with
  | none => rw [show va = V.non from r1]; exact q
  | some a => rw [decide_eq_false r1.1]; exact q
theorem cp_notN (K : Fr) {A : Dt α} : Cp2 K (fun x y H Q => y = .non ∧ Q (.bl (!decide (x = .non))) H) (dat (tOpt A)) (dat tNone) fun x _ => x.isSome := fun H D a b va vb fa fb Q le ⟨_, r1⟩ ⟨_, r2⟩ q => by
  refine ⟨r2, ?_⟩
  cases a with
  | none => rw [show va = V.non from r1]; exact q
  | some a => rw [decide_eq_false r1.1]; exact q
theorem B_isN {A : Dt α} {ra : M (Option α)} {rb : M Unit} (ha : ET X G Γ a (dat (tOpt A)) ra) (hb : ET X G Γ b (dat tNone) rb) : BT X G Γ (.Compare a [.Is] [b] pos) (ra.bind fun x => rb.bind fun _ => ok x.isNone) := B_cmp op_isN (cp_isN X.K) (nomark _) ha hb
theorem B_notN {A : Dt α} {ra : M (Option α)} {rb : M Unit} (ha : ET X G Γ a (dat (tOpt A)) ra) (hb : ET X G Γ b (dat tNone) rb) : BT X G Γ (.Compare a [.IsNot] [b] pos) (ra.bind fun x => rb.bind fun _ => ok x.isSome) := B_cmp op_notN (cp_notN X.K) (nomark _) ha hb
theorem E_isN {A : Dt α} {ra : M (Option α)} {rb : M Unit} (ha : ET X G Γ a (dat (tOpt A)) ra) (hb : ET X G Γ b (dat tNone) rb) : ET X G Γ (.Compare a [.Is] [b] pos) (dat tBool) (ra.bind fun x => rb.bind fun _ => ok x.isNone) := E_cmp op_isN (cp_isN X.K) (nomark _) ha hb
theorem E_notN {A : Dt α} {ra : M (Option α)} {rb : M Unit} (ha : ET X G Γ a (dat (tOpt A)) ra) (hb : ET X G Γ b (dat tNone) rb) : ET X G Γ (.Compare a [.IsNot] [b] pos) (dat tBool) (ra.bind fun x => rb.bind fun _ => ok x.isSome) := E_cmp op_notN (cp_notN X.K) (nomark _) ha hb

/-! ### sum, all, any -/
theorem Paired.toInts {K : Fr} {D : Hp} : ∀ {xs : List Int} {vs : List L2.V}, Paired (tInt.rep K D) xs vs → vs = xs.map V.int
  | _, _, .nil => rfl
  | _, _, .cons r t => by rw [List.map_cons, ← Paired.toInts t]; exact congrArg (· :: _) r
theorem Paired.toBls {K : Fr} {D : Hp} : ∀ {xs : List Bool} {vs : List L2.V}, Paired (tBool.rep K D) xs vs → vs = xs.map V.bl
  | _, _, .nil => rfl
  | _, _, .cons r t => by rw [List.map_cons, ← Paired.toBls t]; exact congrArg (· :: _) r
theorem E_sum {ra : M (List Int)} {p : Pos} (hm : X.mg "sum" = none) (ha : ET X G Γ a (bor tInt) ra) (hc : G.c = true := by rfl) (hg : Gl X "sum" := by rfl) (hs1 : starEach [a] X.env = [(false, eval a X.env)] := by rfl) : ET X G Γ (.Call (.Name "sum" p) [a] [] pos) (dat tInt) (ra.bind fun x => ok x.sum) := fun w =>
  E_bi1 (A := bor tInt) (R := dat tInt) (cr_sum (w.calm hc)) (fun H D a va fa c Q le ⟨_, p, vs, z, h1, h2⟩ hg k => by
    cases hg
    have := Paired.toInts h2
    subst this
    exact ⟨p, a, by rw [z], h1, k _ H D [] (Ext.refl le) ⟨rfl, rfl⟩ .nil⟩) nxok hm (by decide +kernel) ha hg (by decide) (by decide) hs1 rfl w
theorem E_all {ra : M (List Bool)} {p : Pos} (hm : X.mg "all" = none) (ha : ET X G Γ a (bor tBool) ra) (hc : G.c = true := by rfl) (hg : Gl X "all" := by rfl) (hs1 : starEach [a] X.env = [(false, eval a X.env)] := by rfl) : ET X G Γ (.Call (.Name "all" p) [a] [] pos) (dat tBool) (ra.bind fun x => ok (x.all id)) := fun w =>
  E_bi1 (A := bor tBool) (R := dat tBool) (cr_all (w.calm hc)) (fun H D a va fa c Q le ⟨_, p, vs, z, h1, h2⟩ hg k => by
    cases hg
    have := Paired.toBls h2
    subst this
    exact ⟨p, a, by rw [z], h1, k _ H D [] (Ext.refl le) ⟨rfl, rfl⟩ .nil⟩) nxok hm (by decide +kernel) ha hg (by decide) (by decide) hs1 rfl w
theorem E_any {ra : M (List Bool)} {p : Pos} (hm : X.mg "any" = none) (ha : ET X G Γ a (bor tBool) ra) (hc : G.c = true := by rfl) (hg : Gl X "any" := by rfl) (hs1 : starEach [a] X.env = [(false, eval a X.env)] := by rfl) : ET X G Γ (.Call (.Name "any" p) [a] [] pos) (dat tBool) (ra.bind fun x => ok (x.any id)) := fun w =>
  E_bi1 (A := bor tBool) (R := dat tBool) (cr_any (w.calm hc)) (fun H D a va fa c Q le ⟨_, p, vs, z, h1, h2⟩ hg k => by
    cases hg
    have := Paired.toBls h2
    subst this
    exact ⟨p, a, by rw [z], h1, k _ H D [] (Ext.refl le) ⟨rfl, rfl⟩ .nil⟩) nxok hm (by decide +kernel) ha hg (by decide) (by decide) hs1 rfl w

/-! ### tuples of any length -/
theorem Paired.nil_iff {F : α → L2.V → Prop} {xs : List α} {vs : List L2.V} (h : Paired F xs vs) : vs = [] ↔ xs = [] := by
  cases h with
  | nil => simp
  | cons _ _ => simp
theorem E_catT {A : Dt α} {ra rb : M (List α)} (ha : ET X G Γ a (dat (tRow A)) ra) (hb : ET X G Γ b (dat (tRow A)) rb) : ET X G Γ (.BinOp a .Add b pos) (dat (tRow A)) (ra.bind fun x => rb.bind fun y => pcat x y) :=
  E_op2 (A := dat (tRow A)) (B := dat (tRow A)) (R := dat (tRow A)) op_catA (fun H D xs ys va vb fa fb c Q le ⟨_, p, vs, z1, h1, h2⟩ ⟨_, q, ws, z2, h3, h4⟩ hg k => by
    obtain ⟨g1, g2⟩ := grd_ok hg
    cases g2
    refine ⟨p, q, vs, ws, z1, z2, SqT.mono le h1, SqT.mono le h3, by rw [← h2.length, ← h4.length]; exact g1, fun e => ?_, fun e1 e2 => ?_, fun _ _ r nr => row_new le nr (Paired.append h4 h2) k⟩
    · have : xs = [] := (Paired.nil_iff h2).mp e
      subst this
      exact k _ H D [] (Ext.refl le) ⟨rfl, q, ws, rfl, h3, h4⟩ .nil
    · have : ys = [] := (Paired.nil_iff h4).mp e2
      subst this
      exact k _ H D [] (Ext.refl le) ⟨rfl, p, vs, rfl, h1, by rw [List.append_nil]; exact h2⟩ .nil) (fun _ _ _ => grd_nx (fun z => nomatch z)) ha hb
theorem E_slT {A : Dt α} {ra : M (List α)} {rl rh : M (Option Int)} {lo hi : Option Expr} {p2 : Pos} (ha : ET X G Γ a (dat (tRow A)) ra) (hl : OT X G Γ lo rl) (hh : OT X G Γ hi rh) :
    ET X G Γ (.Subscript a (.Slice lo hi none p2) pos) (dat (tRow A)) (ra.bind fun x => rl.bind fun l => rh.bind fun h => ok (cutL x l h)) :=
  E_sl (A := dat (tRow A)) (Q' := dat (tRow A)) (g := fun x l h => ok (cutL x l h)) sl_tupA ha hl hh (fun _ _ _ _ z => nomatch z) fun H D x v f l h c Q le ⟨_, p, vs, z, h1, h2⟩ hg k => by
    cases hg
    refine ⟨p, vs, z, SqT.mono le h1, fun ⟨e1, e2⟩ => ?_, fun _ q nq => row_new le nq (cutV_paired h2 l h) k⟩
    have : cutL x l h = x := by
      unfold cutL
      rw [h2.length, e1, e2, List.drop_zero, ← h2.length]
      exact List.take_of_length_le (by omega)
    rw [this] at k
    exact k _ H D [] (Ext.refl le) ⟨rfl, p, vs, rfl, h1, h2⟩ .nil
/-! places of a record of three -/
theorem E_r31 {A : Dt α} {B : Dt β} {C : Dt γ} {ra : M (α × β × γ)} (ha : ET X G Γ a (dat (tRec3 A B C)) ra) (hb : ET X G Γ b (dat tInt) (ok 0)) (hp : PlainIx b := by intro _ _; rfl) : ET X G Γ (.Subscript a b pos) (dat A) (ra.bind fun x => ok x.1) :=
  E_ix (A := dat (tRec3 A B C)) (R := dat A) (g := fun x (_ : Int) => ok x.1) (B := ⟨fun _ _ _ fp x v => fp = [] ∧ x = 0 ∧ v = .int 0, fun _ _ h => h⟩) ix_tup (fun H D xs i va vb fa fb c Q le ⟨_, p, v1, v2, v3, z, h1, h2, h3, h4⟩ ⟨_, _, z2⟩ hg k => by
    cases hg
    exact ⟨p, _, 0, v1, z, z2, SqT.mono le h1, rfl, k v1 H D [] (Ext.refl le) ⟨rfl, h2⟩ .nil⟩) nxok2 ha (fun w => (hb w).weak fun σ H Q ⟨H0, D0, D, os, hr, x, hx, hp⟩ => ⟨H0, D0, D, os, hr, x, hx, by
      cases hx
      exact fun v H' D' fp e ⟨h1, h2⟩ f => hp v H' D' fp e ⟨h1, rfl, h2⟩ f⟩) hp
theorem E_r32 {A : Dt α} {B : Dt β} {C : Dt γ} {ra : M (α × β × γ)} (ha : ET X G Γ a (dat (tRec3 A B C)) ra) (hb : ET X G Γ b (dat tInt) (ok 1)) (hp : PlainIx b := by intro _ _; rfl) : ET X G Γ (.Subscript a b pos) (dat B) (ra.bind fun x => ok x.2.1) :=
  E_ix (A := dat (tRec3 A B C)) (R := dat B) (g := fun x (_ : Int) => ok x.2.1) (B := ⟨fun _ _ _ fp x v => fp = [] ∧ x = 1 ∧ v = .int 1, fun _ _ h => h⟩) ix_tup (fun H D xs i va vb fa fb c Q le ⟨_, p, v1, v2, v3, z, h1, h2, h3, h4⟩ ⟨_, _, z2⟩ hg k => by
    cases hg
    exact ⟨p, _, 1, v2, z, z2, SqT.mono le h1, rfl, k v2 H D [] (Ext.refl le) ⟨rfl, h3⟩ .nil⟩) nxok2 ha (fun w => (hb w).weak fun σ H Q ⟨H0, D0, D, os, hr, x, hx, hp⟩ => ⟨H0, D0, D, os, hr, x, hx, by
      cases hx
      exact fun v H' D' fp e ⟨h1, h2⟩ f => hp v H' D' fp e ⟨h1, rfl, h2⟩ f⟩) hp
theorem E_r33 {A : Dt α} {B : Dt β} {C : Dt γ} {ra : M (α × β × γ)} (ha : ET X G Γ a (dat (tRec3 A B C)) ra) (hb : ET X G Γ b (dat tInt) (ok 2)) (hp : PlainIx b := by intro _ _; rfl) : ET X G Γ (.Subscript a b pos) (dat C) (ra.bind fun x => ok x.2.2) :=
  E_ix (A := dat (tRec3 A B C)) (R := dat C) (g := fun x (_ : Int) => ok x.2.2) (B := ⟨fun _ _ _ fp x v => fp = [] ∧ x = 2 ∧ v = .int 2, fun _ _ h => h⟩) ix_tup (fun H D xs i va vb fa fb c Q le ⟨_, p, v1, v2, v3, z, h1, h2, h3, h4⟩ ⟨_, _, z2⟩ hg k => by
    cases hg
    exact ⟨p, _, 2, v3, z, z2, SqT.mono le h1, rfl, k v3 H D [] (Ext.refl le) ⟨rfl, h4⟩ .nil⟩) nxok2 ha (fun w => (hb w).weak fun σ H Q ⟨H0, D0, D, os, hr, x, hx, hp⟩ => ⟨H0, D0, D, os, hr, x, hx, by
      cases hx
      exact fun v H' D' fp e ⟨h1, h2⟩ f => hp v H' D' fp e ⟨h1, rfl, h2⟩ f⟩) hp
end
end T

set_option maxRecDepth 100000
set_option maxHeartbeats 4000000
namespace HT
open PySem PySem.Spec PyProof.Rows
section
variable {prog : Program} {w : World} {A : Around} {E : Value → Shared → Prop} {s : Shared}
theorem sliceApplied_rev {sl : Addr} {vl vu vs : Value} {n : Nat} {Q : Int × Int × Nat → Shared → Prop} (hs : s.heap.IsSliceOf sl vl vu vs) (pl : IsPart vl none) (pu : IsPart vu none) (ps : IsPart vs (some (-1)))
    (h : Q ((n : Int) - 1, -1, n) s) : wpAny (model prog w) A (Builtin.Slice.sliceApplied (.ref sl) (pure (n : Int))) Q E s := by
  obtain ⟨os, hos, hcs, hds⟩ := id hs
  unfold Builtin.Slice.sliceApplied Builtin.Slice.sliceFields
  refine wpAny_bind (wpAny_bind (wpAny_field hos hds (x := vl) rfl (wpAny_bind (wpAny_field hos hds (x := vu) rfl (wpAny_bind (wpAny_field hos hds (x := vs) rfl (wpAny_pure ?_)))))))
  refine wpAny_bind (slicePart_ ps ?_)
  show wpAny _ _ (if ((-1 : Int) == 0) = true then _ else _) _ _ s
  rw [if_neg (by decide)]
  refine wpAny_bind (slicePart_ pl (wpAny_bind (slicePart_ pu (wpAny_bind (wpAny_pure ?_)))))
  show wpAny _ _ (match Builtin.Slice.sliceAdjust none none (-1) (n : Int) with | (lo, hi) => pure (lo, (-1 : Int), Builtin.Slice.slicePlaces lo hi (-1))) _ _ s
  have e : Builtin.Slice.sliceAdjust none none (-1) (n : Int) = ((n : Int) - 1, -1) := rfl
  rw [e]
  show wpAny _ _ (pure ((n : Int) - 1, (-1 : Int), Builtin.Slice.slicePlaces ((n : Int) - 1) (-1) (-1))) _ _ s
  have e2 : Builtin.Slice.slicePlaces ((n : Int) - 1) (-1) (-1) = n := by
    unfold Builtin.Slice.slicePlaces
    have h1 : ¬ (-1 : Int) > 0 := by decide
    simp only [h1, if_false]
    split
    · rw [show (-(-1) : Int) = 1 by decide, Int.ediv_one]; omega
    · omega
  rw [e2]
  exact wpAny_pure h
theorem pick_rev (xs : Array Value) : ((List.range xs.size).filterMap fun (m : Nat) => xs[(((xs.size : Int) - 1) + (m : Int) * (-1)).toNat]?).toArray = xs.toList.reverse.toArray := by
  have e : (fun (m : Nat) => xs[(((xs.size : Int) - 1) + (m : Int) * (-1)).toNat]?) = (xs[·]?) ∘ fun m => xs.size - 1 - m := by
    funext m
    show _ = xs[xs.size - 1 - m]?
    have : (((xs.size : Int) - 1) + (m : Int) * (-1)).toNat = xs.size - 1 - m := by omega
    rw [this]
  rw [e, ← List.filterMap_map, PySem.W.krv_range, List.filterMap_reverse, PySem.W.krv_all]
theorem getItem_tuple_rev {t sl : Addr} {items : Array Value} {vl vu vs : Value} {Q : Value → Shared → Prop} (ht : IsTup s.heap t items) (hs : s.heap.IsSliceOf sl vl vu vs) (pl : IsPart vl none) (pu : IsPart vu none) (ps : IsPart vs (some (-1)))
    (h : Q (.ref s.heap.objs.size) { s with heap := s.heap.push { cls := .type "tuple", data := .seq items.toList.reverse.toArray } })
    (hsz : items.size ≤ sizeLine) : wpAny (model prog w) A (getItem (.ref t) (.ref sl)) Q E s := by
  have htake : sizeOk (.seq items.toList.reverse.toArray) := by
    show (items.toList.reverse.toArray).size ≤ sizeLine
    rw [List.size_toArray, List.length_reverse, Array.length_toList]
    exact hsz
  obtain ⟨os, hos, hcs, hds⟩ := id hs
  have hTs : s.TypeIs (.ref sl) "slice" := ⟨os, hos, hcs⟩
  unfold getItem
  try with_reducible refine wpAny_holding ?_
  first | refine wpAny_bind (wpAny_pure ?_) | skip
  refine wpAny_bind (wpAny_sequenceKey ht.typeIs (by decide) ?_)
  refine wpAny_bind (wpAny_callSpecial?_slot (name := Str.ofString "__getitem__") ht.typeIs PyProof.Rows.slot_tuple_getitem
    (wpAny_call_entry PyProof.Rows.slot_tuple_getitem ht.typeIs entry_tuple_getitem ?_ (args_tuple_getitem _ _)))
  show wpAny _ _ (Builtin.Tuple.tupleItemsOf (.ref t) >>= _) _ _ s
  refine wpAny_bind (tupleItemsOf_ ht ?_)
  refine wpAny_bind (wpAny_typeOf hTs ?_)
  rw [if_pos (by decide)]
  refine wpAny_bind (sliceApplied_rev hs pl pu ps ?_)
  have hno : ¬ ((((items.size : Int) - 1 == 0) && ((-1 : Int) == 1) && (items.size == items.size)) = true) := by
    intro q
    rw [Bool.and_eq_true, Bool.and_eq_true] at q
    exact absurd q.1.2 (by decide)
  show wpAny _ _ (if (((items.size : Int) - 1 == 0) && ((-1 : Int) == 1) && (items.size == items.size)) = true then _ else _) _ _ s
  rw [if_neg hno, pick_rev]
  first
    | exact wpAny_bind (m := Builtin.Tuple.tupleExact _) (wpAny_newObj_type (wpAny_pure ⟨_, rfl, wpAny_pure h⟩) htake)
    | exact wpAny_bind (m := Builtin.Tuple.tupleExact _) (wpAny_newObj_type (wpAny_bind (wpAny_pure (wpAny_pure ⟨_, rfl, wpAny_pure h⟩))) htake)
    | exact wpAny_bind (wpAny_bind (m := Builtin.Tuple.tupleExact _) (wpAny_newObj_type (wpAny_pure (wpAny_pure ⟨_, rfl, wpAny_pure h⟩)) htake))
    | exact wpAny_bind (wpAny_bind (m := Builtin.Tuple.tupleExact _) (wpAny_newObj_type (wpAny_pure ⟨_, rfl, wpAny_pure h⟩) htake))
end
end HT
namespace L2
open PySem PySem.Spec PyProof.Rows
section
variable {X : Cx}
/-- t[::-1] of a tuple -/
def tRevTu (K : PySem.W.Frag) (te : TE) : TE := fun σ H Q => te σ H fun x H1 => ∃ a xs, x = .ref a ∧ SqT K H1 a xs ∧ ∀ p, H1 p = none → Q (.ref p) (upd H1 p (.tup xs.reverse))
theorem pe_revTu {e : Expr} {te : TE} {k : Nat} {p1 p2 p3 pos : Pos} (he : PE X e te) : PE X (.Subscript e (.Slice none none (some (.UnaryOp .USub (.Constant (.int 1) k p1) p2)) p3) pos) (tRevTu X.K te) := by
  refine ⟨fun pins s σ H Q I h => ?_⟩
  refine Subscript_ (thn (he.run pins s σ H _ I h) fun v s1 ⟨x, H1, I1, r1, q1⟩ => ?_)
  obtain ⟨a, xs, ex, hx, q⟩ := q1
  subst ex
  cases r1
  have hst : PO X (some (.UnaryOp .USub (.Constant (.int 1) k p1) p2)) (tPart (tUn (rU fun i => .int (-i)) (tC (.int 1)))) := po_some (pe_un un_neg pe_int)
  refine wpAny_Slice (thn (po_none.run pins s1 σ H1 (fun o H2 => o = none ∧ H2 = H1) I1 ⟨rfl, rfl⟩) fun vl s2 ⟨l, H2, I2, pl, el, e2⟩ => ?_)
  subst el e2
  refine thn (po_none.run pins s2 σ H2 (fun o H3 => o = none ∧ H3 = H2) I2 ⟨rfl, rfl⟩) fun vu s3 ⟨u, H3, I3, pu, eu, e3⟩ => ?_
  subst eu e3
  refine thn (hst.run pins s3 σ H3 (fun o H4 => o = some (-1) ∧ H4 = H3) I3 ⟨1, rfl, -1, rfl, rfl, rfl⟩) fun vs s4 ⟨o, H4, I4, ps, eo, e4⟩ => ?_
  subst eo e4
  have I5 : Inv X pins σ H4 { s4 with heap := s4.heap.push { cls := .type "slice", data := .fields #[vl, vu, vs] } } := I4.kept (t' := s4.toks) fun b ob q => Heap.get?_push_of_some _ q
  obtain ⟨its, r, ht, hz⟩ := I5.tuple hx
  show wpAny (model X.prog X.w) X.A (subscriptTail e (.Slice none none (some (.UnaryOp .USub (.Constant (.int 1) k p1) p2)) p3) (.ref a) (.ref s4.heap.objs.size)) (EP X pins σ Q) X.xe { s4 with heap := s4.heap.push { cls := .type "slice", data := .fields #[vl, vu, vs] } }
  refine tail_any (ops := [.ref a, .ref s4.heap.objs.size]) ht.typeIs (PyProof.Rows.slot_tuple_getitem.lookup) ?_ (by with_unfolding_all rfl)
  refine HT.getItem_tuple_rev ht (Heap.IsSliceOf.new _ vl vu vs) pl pu ps ?_ (by rw [List.size_toArray, ← r.length]; exact hz)
  refine ⟨.ref _, _, I5.laid (t' := s4.toks) (o := .tup xs.reverse) (fun b ob q => Heap.get?_push_of_some _ q) (Nat.le_refl _) ?_, rfl, q _ (I5.hok.fresh (Nat.le_refl _))⟩
  exact ⟨by rw [List.length_reverse]; exact hz, _, r.reverse, IsTup.new _ _⟩
end
end L2
namespace T
open PySem PySem.Spec PyProof.Rows L2
section
variable {X : Cx} {G : Ctx} {Γ : Vw} {α β γ δ τ ρ θ C C' : Type} {a b c e it tg : Expr} {pos : Pos} {st : Stmt} {rest B : List Stmt} {R : Rp ρ} {Z : θ → Dest ρ}
theorem J_frzE (i : Nat) {A : Dt α} {xs : List α} {r : M θ} (hf : find i Γ = some (eO i A xs)) (h : JB X G (put (eD i (tLst A) xs) Γ) B R Z r) : JB X G Γ B R Z r := J_frz i h hf
theorem E_revL {A : Dt α} {ra : M (List α)} {k : Nat} {p1 p2 p3 : Pos} (ha : ET X G Γ a (bor A) ra) :
    ET X G Γ (.Subscript a (.Slice none none (some (.UnaryOp .USub (.Constant (.int 1) k p1) p2)) p3) pos) (own A) (ra.bind fun x => ok x.reverse) := fun w =>
  (pe_revL (ha w)).weak fun σ H Q ⟨H0, D0, D, os, hr, x, hx, hp⟩ =>
    seqEE hr hx hp fun i H1 D1 fp v _ hx1 e1 ⟨_, p, vs, z, h1, h2⟩ f1 hr1 hp1 => by
      cases hx1
      exact ⟨p, vs, z, h1, fun q nq => own_new hr1.le nq (Paired.reverse h2) hp1⟩
theorem E_revTu {A : Dt α} {ra : M (List α)} {k : Nat} {p1 p2 p3 : Pos} (ha : ET X G Γ a (dat (tRow A)) ra) :
    ET X G Γ (.Subscript a (.Slice none none (some (.UnaryOp .USub (.Constant (.int 1) k p1) p2)) p3) pos) (dat (tRow A)) (ra.bind fun x => ok x.reverse) := fun w =>
  (pe_revTu (ha w)).weak fun σ H Q ⟨H0, D0, D, os, hr, x, hx, hp⟩ =>
    seqEE hr hx hp fun i H1 D1 fp v _ hx1 e1 ⟨_, p, vs, z, h1, h2⟩ f1 hr1 hp1 => by
      cases hx1
      exact ⟨p, vs, z, SqT.mono hr1.le h1, fun q nq => row_new hr1.le nq (Paired.reverse h2) hp1⟩
end
end T

set_option maxRecDepth 100000
set_option maxHeartbeats 4000000
namespace L2
open PySem PySem.Spec PyProof.Rows
section
variable {X : Cx}
def rGetL (K : PySem.W.Frag) : V → V → Hp → VK → Prop := fun o i H Q => ∃ p xs k z, o = .ref p ∧ i = .int k ∧ SqL K H p xs ∧ atI xs k = some z ∧ Q z H
theorem get_list : PGet X (rGetL X.K) := by
  intro pins s σ H x y v u Q I rx ry h
  obtain ⟨p, xs, i, z, rfl, rfl, hq, he, q⟩ := h
  cases rx
  obtain ⟨t, rfl⟩ := ry
  obtain ⟨its, r, pl, hz⟩ := I.list hq
  obtain ⟨j, h1, h2, h3, h4, h5⟩ := atI_get he
  obtain ⟨w, ew, rw'⟩ := r.get h2
  have hl := r.length
  have hn := line63
  have fin : EP X pins σ Q w s := ⟨z, H, I, rw', q⟩
  by_cases h0 : 0 ≤ i
  · have hj : i.toNat = j := by
      rw [seqIndex_of h0 h5] at h1
      exact Option.some.inj h1
    exact wpAny_getItem_list (Q := EP X pins σ Q) pl.isList h0 (by omega) (by rw [hj]; simpa using ew) fin
  · have hj : (i + (its.toArray.size : Int)).toNat = j := by
      rw [seqIndex_neg (by omega) h4] at h1
      rw [List.size_toArray, ← hl]
      exact Option.some.inj h1
    exact wpAny_getItem_list_neg (Q := EP X pins σ Q) pl.isList (by omega) (by rw [List.size_toArray] <;> omega) (by omega) (by rw [hj]; simpa using ew) fin
end
end L2
namespace T
open PySem PySem.Spec PyProof.Rows L2
theorem Paired.rget {α : Type} {F : α → L2.V → Prop} {xs : List α} {vs : List L2.V} {i : Nat} {x : α} (h : Paired F xs vs) (e : xs.reverse[i]? = some x) : ∃ v, vs[vs.length - 1 - i]? = some v ∧ i < vs.length ∧ F x v := by
  have h2 := Paired.reverse h
  obtain ⟨v, q1, q2⟩ := Paired.get h2 e
  have hi : i < vs.length := by
    have := (List.getElem?_eq_some_iff.mp q1).1
    rwa [List.length_reverse] at this
  rw [List.getElem?_reverse hi] at q1
  exact ⟨v, q1, hi, q2⟩
theorem itok_revL {α : Type} {K : Fr} {D1 : Hp} {A : Dt α} {xs : List α} {p : Addr} {vs : List L2.V} (h1 : SqL K D1 p vs) (h2 : Paired (A.rep K D1) xs vs) : ItOk K (Itv K p vs.length) D1 A xs.reverse := fun i H D e1 e2 => by
  have hS : SqL K H p vs := SqL.mono (e1.trans e2) h1
  refine ⟨fun x hx => ?_, fun hl => by rw [List.length_reverse, h2.length] at hl; exact hl⟩
  obtain ⟨v, q1, qi, q2⟩ := Paired.rget h2 hx
  refine ⟨⟨qi, vs, v, hS, q1⟩, fun u H' ⟨e, y⟩ => ?_⟩
  subst e
  have : some v = some u := q1.symm.trans (y vs hS)
  cases this
  exact ⟨D, Ext.refl e2, A.mono e1 q2⟩
theorem itok_revT {α : Type} {K : Fr} {D1 : Hp} {A : Dt α} {xs : List α} {p : Addr} {vs : List L2.V} (h1 : SqT K D1 p vs) (h2 : Paired (A.rep K D1) xs vs) : ItOk K (RT.ItvT K p vs.length) D1 A xs.reverse := fun i H D e1 e2 => by
  have hS : SqT K H p vs := SqT.mono (e1.trans e2) h1
  refine ⟨fun x hx => ?_, fun hl => by rw [List.length_reverse, h2.length] at hl; exact hl⟩
  obtain ⟨v, q1, qi, q2⟩ := Paired.rget h2 hx
  refine ⟨⟨qi, vs, v, hS, q1⟩, fun u H' ⟨e, y⟩ => ?_⟩
  subst e
  have : some v = some u := q1.symm.trans (y vs hS)
  cases this
  exact ⟨D, Ext.refl e2, A.mono e1 q2⟩
/-- i, i - 1, .. n of them -/
def rangeD (lo : Int) (n : Nat) : List Int := (List.range n).map fun i : Nat => lo - (i : Int)
theorem rangeD_get (lo : Int) (n i : Nat) : (rangeD lo n)[i]? = if i < n then some (lo - (i : Int)) else none := by
  unfold rangeD
  by_cases h : i < n
  · simp [h]
  · simp [h]
theorem rangeD_len (lo : Int) (n : Nat) : (rangeD lo n).length = n := by simp [rangeD]
theorem itok_rangeD {K : Fr} {D1 : Hp} {lo : Int} {n : Nat} : ItOk K (Itc lo (-1) n) D1 tInt (rangeD lo n) := fun i H D e1 e2 => by
  refine ⟨fun x hx => ?_, fun hl => by rw [rangeD_len] at hl; exact hl⟩
  rw [rangeD_get] at hx
  by_cases h : i < n
  · rw [if_pos h] at hx
    cases hx
    refine ⟨h, fun u H' ⟨e, y⟩ => ?_⟩
    subst e
    refine ⟨D, Ext.refl e2, ?_⟩
    show u = V.int _
    rw [y]
    congr 1
    omega
  · rw [if_neg h] at hx; cases hx
theorem itok_enum {α : Type} {K : Fr} {D1 : Hp} {A : Dt α} {xs : List α} {p : Addr} {vs : List L2.V} (h1 : SqL K D1 p vs) (h2 : Paired (A.rep K D1) xs vs) : ItOk K (Ite K p) D1 (tRec2 tInt A) ((rangeL 0 xs.length).zip xs) := fun i H D e1 e2 => by
  have hS : SqL K H p vs := SqL.mono (e1.trans e2) h1
  refine ⟨fun x hx => ?_, fun hl => ⟨vs, hS, by rw [← h2.length]; rw [List.length_zip, rangeL_len, Nat.min_self] at hl; exact hl⟩⟩
  obtain ⟨a, b⟩ := x
  rw [List.getElem?_zip_eq_some] at hx
  obtain ⟨x1, x2⟩ := hx
  dsimp only at x1 x2
  rw [rangeL_get] at x1
  by_cases h : i < xs.length
  · rw [if_pos h] at x1
    have x1 := Option.some.inj x1
    obtain ⟨v, q1, q2⟩ := Paired.get h2 x2
    refine ⟨⟨vs, v, hS, q1⟩, fun u H' ⟨T', y, eu, hT, eH, yy⟩ => ?_⟩
    subst eu; subst eH
    have : some v = some y := q1.symm.trans (yy vs hS)
    cases this
    refine ⟨upd D T' (.tup [.int (i : Nat), v]), Ext.laid e2 hT, T', _, _, rfl, .inl (.inl upd_same), ?_, A.mono (Same.upd (e2.free hT)) (A.mono e1 q2)⟩
    show V.int _ = V.int _
    congr 1
    omega
  · rw [if_neg h] at x1; cases x1
theorem itok_zipL {α β : Type} {K : Fr} {D1 : Hp} {A : Dt α} {B : Dt β} {xs : List α} {ys : List β} {p q : Addr} {vs ws : List L2.V} (h1 : SqL K D1 p vs) (h2 : Paired (A.rep K D1) xs vs) (g1 : SqL K D1 q ws) (g2 : Paired (B.rep K D1) ys ws) : ItOk K (Itz K p q) D1 (tRec2 A B) (xs.zip ys) := fun i H D e1 e2 => by
  have hS : SqL K H p vs := SqL.mono (e1.trans e2) h1
  have gS : SqL K H q ws := SqL.mono (e1.trans e2) g1
  refine ⟨fun x hx => ?_, fun hl => ⟨vs, ws, hS, gS, by rw [← h2.length, ← g2.length]; rw [List.length_zip] at hl; omega⟩⟩
  obtain ⟨a, b⟩ := x
  rw [List.getElem?_zip_eq_some] at hx
  obtain ⟨x1, x2⟩ := hx
  obtain ⟨v, q1, q2⟩ := Paired.get h2 x1
  obtain ⟨w, r1, r2⟩ := Paired.get g2 x2
  refine ⟨⟨vs, ws, v, w, hS, gS, q1, r1⟩, fun u H' ⟨T', y, z, eu, hT, eH, yy, zz⟩ => ?_⟩
  subst eu; subst eH
  cases (q1.symm.trans (yy vs hS) : some v = some y)
  cases (r1.symm.trans (zz ws gS) : some w = some z)
  exact ⟨upd D T' (.tup [v, w]), Ext.laid e2 hT, T', _, _, rfl, .inl (.inl upd_same), A.mono (Same.upd (e2.free hT)) (A.mono e1 q2), B.mono (Same.upd (e2.free hT)) (B.mono e1 r2)⟩
theorem itok_zipT {α β : Type} {K : Fr} {D1 : Hp} {A : Dt α} {B : Dt β} {xs : List α} {ys : List β} {p q : Addr} {vs ws : List L2.V} (h1 : SqT K D1 p vs) (h2 : Paired (A.rep K D1) xs vs) (g1 : SqT K D1 q ws) (g2 : Paired (B.rep K D1) ys ws) : ItOk K (RZ.ItzT K p q) D1 (tRec2 A B) (xs.zip ys) := fun i H D e1 e2 => by
  have hS : SqT K H p vs := SqT.mono (e1.trans e2) h1
  have gS : SqT K H q ws := SqT.mono (e1.trans e2) g1
  refine ⟨fun x hx => ?_, fun hl => ⟨vs, ws, hS, gS, by rw [← h2.length, ← g2.length]; rw [List.length_zip] at hl; omega⟩⟩
  obtain ⟨a, b⟩ := x
  rw [List.getElem?_zip_eq_some] at hx
  obtain ⟨x1, x2⟩ := hx
  obtain ⟨v, q1, q2⟩ := Paired.get h2 x1
  obtain ⟨w, r1, r2⟩ := Paired.get g2 x2
  refine ⟨⟨vs, ws, v, w, hS, gS, q1, r1⟩, fun u H' ⟨T', y, z, eu, hT, eH, yy, zz⟩ => ?_⟩
  subst eu; subst eH
  cases (q1.symm.trans (yy vs hS) : some v = some y)
  cases (r1.symm.trans (zz ws gS) : some w = some z)
  exact ⟨upd D T' (.tup [v, w]), Ext.laid e2 hT, T', _, _, rfl, .inl (.inl upd_same), A.mono (Same.upd (e2.free hT)) (A.mono e1 q2), B.mono (Same.upd (e2.free hT)) (B.mono e1 r2)⟩
section
variable {X : Cx} {G : Ctx} {Γ : Vw} {α β γ δ τ ρ θ C C' : Type} {a b c e it tg : Expr} {pos : Pos} {st : Stmt} {rest B : List Stmt} {R : Rp ρ} {Z : θ → Dest ρ}
theorem I_revL {A : Dt α} {ra : M (List α)} {p : Pos} (hm : X.mg "reversed" = none) (h : ET X G Γ a (dat (tLst A)) ra) (hg : Gl X "reversed" := by rfl) (hs : starEach [a] X.env = (false, eval a X.env) :: starEach [] X.env := by rfl) : ITR X G Γ tg (.Call (.Name "reversed" p) [a] [] pos) A (ra.bind fun x => ok x.reverse) := fun w =>
  (RT.pi_revA hg hm (h w) hs).weak fun σ H Q ⟨H0, D0, D, os, hr, x, hx, hp⟩ => by
    rcases bind_some hx with ⟨xs, rfl, hf⟩ | ⟨e, rfl, rfl⟩
    · cases hf
      exact ⟨H0, D0, D, os, hr, _, rfl, fun v H' D' fp e ⟨_, p, vs, r1, r2, r3⟩ f => ⟨p, vs, r1, .inl ⟨SqL.of (e.dh _ _ r2), hp _ H' D' e (itok_revL (SqL.of r2) r3)⟩⟩⟩
    · exact ⟨H0, D0, D, os, hr, _, rfl, hp⟩
theorem I_revT {A : Dt α} {ra : M (List α)} {p : Pos} (hm : X.mg "reversed" = none) (h : ET X G Γ a (dat (tRow A)) ra) (hg : Gl X "reversed" := by rfl) (hs : starEach [a] X.env = (false, eval a X.env) :: starEach [] X.env := by rfl) : ITR X G Γ tg (.Call (.Name "reversed" p) [a] [] pos) A (ra.bind fun x => ok x.reverse) := fun w =>
  (RT.pi_revA hg hm (h w) hs).weak fun σ H Q ⟨H0, D0, D, os, hr, x, hx, hp⟩ => by
    rcases bind_some hx with ⟨xs, rfl, hf⟩ | ⟨e, rfl, rfl⟩
    · cases hf
      exact ⟨H0, D0, D, os, hr, _, rfl, fun v H' D' fp e ⟨_, p, vs, r1, r2, r3⟩ f => ⟨p, vs, r1, .inr ⟨SqT.mono e.dh r2, hp _ H' D' e (itok_revT r2 r3)⟩⟩⟩
    · exact ⟨H0, D0, D, os, hr, _, rfl, hp⟩
def prangeD (i j : Int) : M (List Int) := grd (-(2 ^ 62) ≤ i ∧ i < 2 ^ 62 ∧ -(2 ^ 62) ≤ j ∧ j < 2 ^ 62) (ok (rangeD i (i - j).toNat))
theorem E_m1 {k : Nat} {p : Pos} : ET X G Γ (.UnaryOp .USub (.Constant (.int 1) k p) pos) (dat tInt) (ok (-1)) := E_eq (E_neg E_int) (by simp only [bind_okS])
theorem I_rangeD {ra rb : M Int} {p p1 p2 : Pos} {k : Nat} (hm : X.mg "range" = none) (ha : ET X G Γ a (dat tInt) ra) (hb : ET X G Γ b (dat tInt) rb) (hg : Gl X "range" := by rfl)
    (hs : starEach [a, b, .UnaryOp .USub (.Constant (.int 1) k p1) p2] X.env = (false, eval a X.env) :: starEach [b, .UnaryOp .USub (.Constant (.int 1) k p1) p2] X.env := by rfl)
    (hs2 : starEach [b, .UnaryOp .USub (.Constant (.int 1) k p1) p2] X.env = (false, eval b X.env) :: starEach [.UnaryOp .USub (.Constant (.int 1) k p1) p2] X.env := by rfl)
    (hs3 : starEach [.UnaryOp .USub (.Constant (.int 1) k p1) p2] X.env = (false, eval (.UnaryOp .USub (.Constant (.int 1) k p1) p2) X.env) :: starEach [] X.env := by rfl)
    (hpl : (backTo pos (starEach [b, .UnaryOp .USub (.Constant (.int 1) k p1) p2] X.env)).any (·.1) = false := by rfl) :
    ITR X G Γ tg (.Call (.Name "range" p) [a, b, .UnaryOp .USub (.Constant (.int 1) k p1) p2] [] pos) tInt (ra.bind fun i => rb.bind fun j => prangeD i j) := fun w =>
  (pi_range3 hg hm (pa_cons (ha w) (pa_cons (hb w) (pa_cons (E_m1 (pos := p2) w) pa_nil hs3) hs2) hs) hs hpl).weak fun σ H Q ⟨H0, D0, D, os, hr, x, hx, hp⟩ => by
    rcases bind_some hx with ⟨i, rfl, hf⟩ | ⟨e, rfl, rfl⟩
    · rcases bind_some hf with ⟨j, rfl, hf⟩ | ⟨e, rfl, rfl⟩
      · obtain ⟨g1, hf⟩ := grd_some hf
        cases hf
        exact ⟨H0, D0, D, os, hr, _, rfl, fun v H' D' fp e ⟨_, r1⟩ f => ⟨H0, D0, D', os, hr.grow e, _, rfl, fun v2 H2 D2 fp2 e2 ⟨_, r2⟩ f2 =>
          ⟨H0, D0, D2, os, (hr.grow e).grow e2, _, rfl, fun v3 H3 D3 fp3 e3 ⟨_, r3⟩ f3 =>
          ⟨i, j, -1, (i - j).toNat, by rw [show v = V.int i from r1, show v2 = V.int j from r2, show v3 = V.int (-1) from r3], RgC.neg g1.1 g1.2.1 g1.2.2.1 g1.2.2.2, hp _ H3 D3 ((e.trans e2).trans e3) itok_rangeD⟩⟩⟩⟩
      · exact ⟨H0, D0, D, os, hr, _, rfl, fun v H' D' fp e ⟨_, r1⟩ f => ⟨H0, D0, D', os, hr.grow e, _, rfl, hp⟩⟩
    · exact ⟨H0, D0, D, os, hr, _, rfl, hp⟩
theorem I_enum {A : Dt α} {ra : M (List α)} {p tpos : Pos} {elts : List Expr} {kk : Nat} (hm : X.mg "enumerate" = none) (h : ET X G Γ a (dat (tLst A)) ra) (hg : Gl X "enumerate" := by rfl) (hs : starEach [a] X.env = [(false, eval a X.env)] := by rfl) :
    ITR X G Γ (.Tuple elts kk tpos) (.Call (.Name "enumerate" p) [a] [] pos) (tRec2 tInt A) (ra.bind fun x => ok ((rangeL 0 x.length).zip x)) := fun w =>
  (pi_enum hg hm (pa_cons (h w) pa_nil hs) hs).weak fun σ H Q ⟨H0, D0, D, os, hr, x, hx, hp⟩ => by
    rcases bind_some hx with ⟨xs, rfl, hf⟩ | ⟨e, rfl, rfl⟩
    · cases hf
      exact ⟨H0, D0, D, os, hr, _, rfl, fun v H' D' fp e ⟨_, p, vs, r1, r2, r3⟩ f => ⟨p, vs, by rw [r1], SqL.of (e.dh _ _ r2), hp _ H' D' e (itok_enum (SqL.of r2) r3)⟩⟩
    · exact ⟨H0, D0, D, os, hr, _, rfl, hp⟩
theorem I_zipL {A : Dt α} {B : Dt β} {ra : M (List α)} {rb : M (List β)} {p tpos : Pos} {elts : List Expr} {kk : Nat} (hm : X.mg "zip" = none) (ha : ET X G Γ a (dat (tLst A)) ra) (hb : ET X G Γ b (dat (tLst B)) rb) (hg : Gl X "zip" := by rfl)
    (hs : starEach [a, b] X.env = (false, eval a X.env) :: starEach [b] X.env := by rfl) (hs2 : starEach [b] X.env = (false, eval b X.env) :: starEach [] X.env := by rfl) (hpl : (backTo pos (starEach [b] X.env)).any (·.1) = false := by rfl) :
    ITR X G Γ (.Tuple elts kk tpos) (.Call (.Name "zip" p) [a, b] [] pos) (tRec2 A B) (ra.bind fun x => rb.bind fun y => ok (x.zip y)) := fun w =>
  (RZ.pi_zipA hg hm (pa_cons (ha w) (pa_cons (hb w) pa_nil hs2) hs) hs hpl).weak fun σ H Q ⟨H0, D0, D, os, hr, x, hx, hp⟩ => by
    rcases bind_some hx with ⟨xs, rfl, hf⟩ | ⟨e, rfl, rfl⟩
    · rcases bind_some hf with ⟨ys, rfl, hf⟩ | ⟨e, rfl, rfl⟩
      · cases hf
        exact ⟨H0, D0, D, os, hr, _, rfl, fun v H' D' fp e ⟨_, p, vs, r1, r2, r3⟩ f => ⟨H0, D0, D', os, hr.grow e, _, rfl, fun v2 H2 D2 fp2 e2 ⟨_, p2, ws, s1, s2, s3⟩ f2 =>
          ⟨p, p2, vs, ws, by rw [r1, s1], .inl ⟨SqL.of (e2.h _ _ (e.dh _ _ r2)), SqL.of (e2.dh _ _ s2), hp _ H2 D2 (e.trans e2) (itok_zipL (SqL.of (e2.d _ _ r2)) (A.monos e2.d r3) (SqL.of s2) s3)⟩⟩⟩⟩
      · exact ⟨H0, D0, D, os, hr, _, rfl, fun v H' D' fp e ⟨_, r1⟩ f => ⟨H0, D0, D', os, hr.grow e, _, rfl, hp⟩⟩
    · exact ⟨H0, D0, D, os, hr, _, rfl, hp⟩
theorem I_zipT {A : Dt α} {B : Dt β} {ra : M (List α)} {rb : M (List β)} {p tpos : Pos} {elts : List Expr} {kk : Nat} (hm : X.mg "zip" = none) (ha : ET X G Γ a (dat (tRow A)) ra) (hb : ET X G Γ b (dat (tRow B)) rb) (hg : Gl X "zip" := by rfl)
    (hs : starEach [a, b] X.env = (false, eval a X.env) :: starEach [b] X.env := by rfl) (hs2 : starEach [b] X.env = (false, eval b X.env) :: starEach [] X.env := by rfl) (hpl : (backTo pos (starEach [b] X.env)).any (·.1) = false := by rfl) :
    ITR X G Γ (.Tuple elts kk tpos) (.Call (.Name "zip" p) [a, b] [] pos) (tRec2 A B) (ra.bind fun x => rb.bind fun y => ok (x.zip y)) := fun w =>
  (RZ.pi_zipA hg hm (pa_cons (ha w) (pa_cons (hb w) pa_nil hs2) hs) hs hpl).weak fun σ H Q ⟨H0, D0, D, os, hr, x, hx, hp⟩ => by
    rcases bind_some hx with ⟨xs, rfl, hf⟩ | ⟨e, rfl, rfl⟩
    · rcases bind_some hf with ⟨ys, rfl, hf⟩ | ⟨e, rfl, rfl⟩
      · cases hf
        exact ⟨H0, D0, D, os, hr, _, rfl, fun v H' D' fp e ⟨_, p, vs, r1, r2, r3⟩ f => ⟨H0, D0, D', os, hr.grow e, _, rfl, fun v2 H2 D2 fp2 e2 ⟨_, p2, ws, s1, s2, s3⟩ f2 =>
          ⟨p, p2, vs, ws, by rw [r1, s1], .inr ⟨SqT.mono (e.dh.trans e2.h) r2, SqT.mono e2.dh s2, hp _ H2 D2 (e.trans e2) (itok_zipT (SqT.mono e2.d r2) (A.monos e2.d r3) s2 s3)⟩⟩⟩⟩
      · exact ⟨H0, D0, D, os, hr, _, rfl, fun v H' D' fp e ⟨_, r1⟩ f => ⟨H0, D0, D', os, hr.grow e, _, rfl, hp⟩⟩
    · exact ⟨H0, D0, D, os, hr, _, rfl, hp⟩
/-- xs[j] op= e, numbers -/
theorem S_augS (i : Nat) {x : Str} {op : Operator} {g : Int → Int → M Int} {val : List Int} {rj re : M Int} {j : Expr} {p sp : Pos} (ho : Ip2 X op g) (hj : ET X G Γ j (dat tInt) rj) (he : ET X G Γ e (dat tInt) re) (nx : NX2 g := by exact nxok2) (hv : find i Γ = some (eO i tInt val) := by rfl) (hN : X.N[i]? = some x := by rfl)
    (hvis : Vis X.env.scope x := by first | exact Or.inl rfl | exact Or.inr (Or.inl rfl) | exact Or.inr (Or.inr rfl)) (hd : (x == ("__debug__" : Str)) = false := by decide) (hcd : (x == ("__classdict__" : Str)) = false := by decide)
    (ha : ∀ ov iv new, augStore j ov iv new = (do holding [new, ov, iv] (setItem ov iv new); release [new, ov, iv] []; pure .next) := by intros; rfl) :
    JS X G Γ (.AugAssign (.Subscript (.Name x p) j sp) op e pos) R (fun a => .nx (put (eO i tInt a) Γ)) (rj.bind fun k => (pget val k).bind fun u => re.bind fun y => (g u y).bind fun z => pset val k z) := fun w => by
  obtain ⟨t, ht, hg⟩ := ho
  refine (ps_augS (pe_var hN hvis hd hcd) (hj w) get_list (he w) ht set_list ha).weak fun E σ H ⟨H0, D0, D, os, hr, x, hx, hp⟩ => ?_
  obtain ⟨q, vs, h1, h2, h3, h4⟩ := hr.mut hv
  refine ⟨.ref q, h1, ?_⟩
  refine seqE (P := fun _ _ x => jPost X.K X.mg G H0 D0 R (fun a => Dest.nx (put (eO i tInt a) Γ)) E x) hr hx hp (fun e h => fun c d => h c d σ) (fun _ _ _ h => h) fun k H1 D1 fp v _ hx1 e1 r1 f1 hr1 hp1 => ?_
  rcases bind_some hx1 with ⟨u, hu, hx2⟩ | ⟨e, hu, _⟩
  · obtain ⟨m1, m2, m3⟩ := h4 H1 D1 e1
    obtain ⟨uv, w1, w2⟩ := atI_paired m2 (pget_ok hu)
    cases (show uv = V.int u from w2)
    refine ⟨q, vs, k, .int u, rfl, r1.2, SqL.of m1, w1, ?_⟩
    refine seqE (P := fun _ _ x => jPost X.K X.mg G H0 D0 R (fun a => Dest.nx (put (eO i tInt a) Γ)) E x) hr1 hx2 hp1 (fun e h => fun c d => h c d σ) (fun _ _ _ h => h) fun y H2 D2 fp2 v2 _ hx3 e2 r2 f2 hr2 hp2 => ?_
    obtain ⟨_, z2⟩ := r2
    cases (show v2 = V.int y from z2)
    rcases bind_some hx3 with ⟨z, hz, hx4⟩ | ⟨e, hz, _⟩
    · refine hg H2 u y z _ hz ?_
      unfold pset at hx4
      cases g : ixN val.length k with
      | none => rw [g] at hx4; cases hx4
      | some j' =>
        rw [g] at hx4
        cases hx4
        obtain ⟨m1, m2, m3⟩ := h4 H2 D2 (e1.trans e2)
        refine ⟨q, vs, k, j', rfl, r1.2, m1, by rw [← h3.length]; exact g, ?_⟩
        obtain ⟨os', qq⟩ := m3 (val.set j' z) (vs.set j' (.int z)) (Paired.set (show tInt.rep X.K D2 z (.int z) from rfl) j' m2)
        exact hp2 σ _ D2 os' qq
    · exact absurd hz (nx _ _ _)
  · exact absurd hu (pget_nx _ _ _)
end
end T

set_option maxRecDepth 100000
set_option maxHeartbeats 4000000
namespace T
open PySem PySem.Spec PyProof.Rows L2
section
variable {X : Cx} {G : Ctx} {Γ : Vw} {α β γ δ τ ρ θ C C' : Type} {a b c e it tg : Expr} {pos : Pos} {st : Stmt} {rest B : List Stmt} {R : Rp ρ} {Z : θ → Dest ρ}
theorem G_rec2K (K0 : Fr) {t1 t2 : Expr} {s1 s2 : List Nat} {A : Dt α} {B : Dt β} {u1 : α → Vw → Vw} {u2 : β → Vw → Vw} {g1 g2 : TG} {k : Nat} {p : Pos} (h1 : GT X t1 s1 A u1 g1) (h2 : GT X t2 s2 B u2 g2) (hK : X.K = K0 := by rfl)
    (hs1 : (assignEach [t1, t2] X.env).map (·.2) = assign t1 X.env :: (assignEach [t2] X.env).map (·.2) := by rfl) (hs2 : (assignEach [t2] X.env).map (·.2) = assign t2 X.env :: (assignEach [] X.env).map (·.2) := by rfl)
    (hn : (assignEach [t1, t2] X.env).length = 2 := by rfl) (hst : (assignEach [t1, t2] X.env).findIdx? (·.1) = none := by rfl) : GT X (.Tuple [t1, t2] k p) (s1 ++ s2) (tRec2 A B) (fun x Γ => u2 x.2 (u1 x.1 Γ)) (gTup K0 2 (gCons g1 (gCons g2 gNil))) := by
  subst hK; exact G_rec2 h1 h2 hs1 hs2 hn hst
theorem G_rec3K (K0 : Fr) {t1 t2 t3 : Expr} {s1 s2 s3 : List Nat} {A : Dt α} {B : Dt β} {C : Dt γ} {u1 : α → Vw → Vw} {u2 : β → Vw → Vw} {u3 : γ → Vw → Vw} {g1 g2 g3 : TG} {k : Nat} {p : Pos} (h1 : GT X t1 s1 A u1 g1) (h2 : GT X t2 s2 B u2 g2) (h3 : GT X t3 s3 C u3 g3) (hK : X.K = K0 := by rfl)
    (hs1 : (assignEach [t1, t2, t3] X.env).map (·.2) = assign t1 X.env :: (assignEach [t2, t3] X.env).map (·.2) := by rfl) (hs2 : (assignEach [t2, t3] X.env).map (·.2) = assign t2 X.env :: (assignEach [t3] X.env).map (·.2) := by rfl) (hs3 : (assignEach [t3] X.env).map (·.2) = assign t3 X.env :: (assignEach [] X.env).map (·.2) := by rfl)
    (hn : (assignEach [t1, t2, t3] X.env).length = 3 := by rfl) (hst : (assignEach [t1, t2, t3] X.env).findIdx? (·.1) = none := by rfl) : GT X (.Tuple [t1, t2, t3] k p) (s1 ++ s2 ++ s3) (tRec3 A B C) (fun x Γ => u3 x.2.2 (u2 x.2.1 (u1 x.1 Γ))) (gTup K0 3 (gCons g1 (gCons g2 (gCons g3 gNil)))) := by
  subst hK; exact G_rec3 h1 h2 h3 hs1 hs2 hs3 hn hst
theorem E_lenR2 {A : Dt α} {B : Dt β} {ra : M (α × β)} {p : Pos} (hm : X.mg "len" = none) (ha : ET X G Γ a (dat (tRec2 A B)) ra) (hg : Gl X "len" := by rfl) (hs1 : starEach [a] X.env = [(false, eval a X.env)] := by rfl) :
    ET X G Γ (.Call (.Name "len" p) [a] [] pos) (dat tInt) (ra.bind fun _ => ok 2) := E_bi1 (A := dat (tRec2 A B)) (R := dat tInt) (g := fun _ => ok 2) call_len_seq (fun H D a va fa c Q le ⟨_, p, v1, v2, z, h1, h2⟩ hg k => by
    cases hg
    exact ⟨p, _, by rw [z], .inr (SqT.mono le h1), k _ H D [] (Ext.refl le) ⟨rfl, rfl⟩ .nil⟩) nxok hm PySem.boot_len ha hg (by decide) (by decide) hs1 rfl
theorem E_lenR3 {A : Dt α} {B : Dt β} {C : Dt γ} {ra : M (α × β × γ)} {p : Pos} (hm : X.mg "len" = none) (ha : ET X G Γ a (dat (tRec3 A B C)) ra) (hg : Gl X "len" := by rfl) (hs1 : starEach [a] X.env = [(false, eval a X.env)] := by rfl) :
    ET X G Γ (.Call (.Name "len" p) [a] [] pos) (dat tInt) (ra.bind fun _ => ok 3) := E_bi1 (A := dat (tRec3 A B C)) (R := dat tInt) (g := fun _ => ok 3) call_len_seq (fun H D a va fa c Q le ⟨_, p, v1, v2, v3, z, h1, h2⟩ hg k => by
    cases hg
    exact ⟨p, _, by rw [z], .inr (SqT.mono le h1), k _ H D [] (Ext.refl le) ⟨rfl, rfl⟩ .nil⟩) nxok hm PySem.boot_len ha hg (by decide) (by decide) hs1 rfl
end
end T

set_option maxRecDepth 100000
set_option maxHeartbeats 4000000
namespace T
open PySem PySem.Spec PyProof.Rows L2
theorem Paired.dropLast {α : Type} {F : α → L2.V → Prop} : ∀ {xs : List α} {vs : List L2.V}, Paired F xs vs → Paired F xs.dropLast vs.dropLast
  | _, _, .nil => .nil
  | _, _, .cons r .nil => .nil
  | _, _, .cons r (.cons r2 t) => .cons r (Paired.dropLast (.cons r2 t))
section
variable {X : Cx} {G : Ctx} {Γ : Vw} {α β γ δ τ ρ θ C C' : Type} {a b c e it tg : Expr} {pos : Pos} {st : Stmt} {rest B : List Stmt} {R : Rp ρ} {Z : θ → Dest ρ}
def ppop {α : Type} (xs : List α) : M (List α) := grd (xs.length ≠ 0) (ok xs.dropLast)
theorem S_pop (i : Nat) {x : Str} {A : Dt α} {val : List α} {p p2 ep : Pos} (hv : find i Γ = some (eO i A val) := by rfl) (hN : X.N[i]? = some x := by rfl) (hvis : Vis X.env.scope x := by first | exact Or.inl rfl | exact Or.inr (Or.inl rfl) | exact Or.inr (Or.inr rfl))
    (hs : swapsWith (.Call (.Attribute (.Name x p) "pop" p2) [] [] ep) none pos.line X.env = pure false := by rfl) (hd : (x == ("__debug__" : Str)) = false := by decide) (hcd : (x == ("__classdict__" : Str)) = false := by decide)
    (hbase : attributeBase (.Name x p) "pop" X.env (eval (.Name x p) X.env) = eval (.Name x p) X.env := by rfl) (hline : (p2.endLine == ep.line) = true := by rfl) :
    JS X G Γ (.Expr (.Call (.Attribute (.Name x p) "pop" p2) [] [] ep) pos) R (fun a => .nx (put (eO i A a) Γ)) (ppop val) := fun w =>
  (ps_expr (pe_bm0 PySem.F.plainAttrs_list PySem.F.slot_list_pop PySem.F.type_list_pop mt_pop (pe_var hN hvis hd hcd) hbase hline) hs).weak fun E σ H ⟨H0, D0, D, os, hr, x, hx, hp⟩ => by
    obtain ⟨q, vs, h1, h2, h3, h4⟩ := hr.mut hv
    refine ⟨.ref q, h1, .inl ⟨rfl, vs, SqL.of h2⟩, ?_⟩
    obtain ⟨g1, g2⟩ := grd_some hx
    cases g2
    obtain ⟨m1, m2, m3⟩ := h4 H D (Ext.refl hr.le)
    have hlen : vs.length ≠ 0 := by rw [← h3.length]; exact g1
    refine ⟨q, vs, vs[vs.length - 1], rfl, rfl, m1, List.getElem?_eq_getElem (by omega), ?_⟩
    obtain ⟨os', qq⟩ := m3 val.dropLast vs.dropLast (Paired.dropLast m2)
    exact hp σ _ D os' qq
theorem S_reverse (i : Nat) {x : Str} {A : Dt α} {val : List α} {p p2 ep : Pos} (hv : find i Γ = some (eO i A val) := by rfl) (hN : X.N[i]? = some x := by rfl) (hvis : Vis X.env.scope x := by first | exact Or.inl rfl | exact Or.inr (Or.inl rfl) | exact Or.inr (Or.inr rfl))
    (hs : swapsWith (.Call (.Attribute (.Name x p) "reverse" p2) [] [] ep) none pos.line X.env = pure false := by rfl) (hd : (x == ("__debug__" : Str)) = false := by decide) (hcd : (x == ("__classdict__" : Str)) = false := by decide)
    (hbase : attributeBase (.Name x p) "reverse" X.env (eval (.Name x p) X.env) = eval (.Name x p) X.env := by rfl) (hline : (p2.endLine == ep.line) = true := by rfl) :
    JS X G Γ (.Expr (.Call (.Attribute (.Name x p) "reverse" p2) [] [] ep) pos) R (fun a => .nx (put (eO i A a) Γ)) (ok val.reverse) := fun w =>
  (ps_expr (pe_bm0 PySem.F.plainAttrs_list PySem.F.slot_list_reverse PySem.F.type_list_reverse mt_reverse (pe_var hN hvis hd hcd) hbase hline) hs).weak fun E σ H ⟨H0, D0, D, os, hr, x, hx, hp⟩ => by
    obtain ⟨q, vs, h1, h2, h3, h4⟩ := hr.mut hv
    refine ⟨.ref q, h1, .inl ⟨rfl, vs, SqL.of h2⟩, ?_⟩
    cases hx
    obtain ⟨m1, m2, m3⟩ := h4 H D (Ext.refl hr.le)
    refine ⟨q, vs, rfl, rfl, m1, ?_⟩
    obtain ⟨os', qq⟩ := m3 val.reverse vs.reverse (Paired.reverse m2)
    exact hp σ _ D os' qq
/-- a statement that is not reached -/
theorem S_stuck : JS X G Γ st R Z (stuck : M θ) := fun w => ⟨fun pins s σ H D I ⟨_, _, _, _, _, x, hx, _⟩ => by cases hx⟩
end
end T
namespace T
open PySem PySem.Spec PyProof.Rows L2
/-! ### constants of a module -/
def isIntsB : List Value → List Int → Bool
  | [], [] => true
  | .int i _ :: us, j :: ns => decide (i = j) && isIntsB us ns
  | _, _ => false
theorem isIntsB_vals : ∀ {us : List Value} {ns : List Int}, isIntsB us ns = true → Vals (ns.map V.int) us
  | [], [], _ => .nil
  | .int i t :: us, j :: ns, h => by
    unfold isIntsB at h
    rw [Bool.and_eq_true] at h
    have e := of_decide_eq_true h.1
    subst e
    exact .cons ⟨t, rfl⟩ (isIntsB_vals h.2)
def isStrsB : List Value → List Str → Bool
  | [], [] => true
  | .str i _ :: us, j :: ns => decide (i = j) && isStrsB us ns
  | _, _ => false
theorem isStrsB_vals : ∀ {us : List Value} {ns : List Str}, isStrsB us ns = true → Vals (ns.map V.str) us
  | [], [], _ => .nil
  | .str i t :: us, j :: ns, h => by
    unfold isStrsB at h
    rw [Bool.and_eq_true] at h
    have e := of_decide_eq_true h.1
    subst e
    exact .cons ⟨t, rfl⟩ (isStrsB_vals h.2)
theorem Paired.strs {K : Fr} {D : Hp} : ∀ {xs : List Str}, Paired (tStr.rep K D) xs (xs.map V.str)
  | [] => .nil
  | x :: xs => .cons rfl (Paired.strs (xs := xs))
section
variable {K : Fr} {mg : Str → Option Value} {h : Heap} {x : Str} {A : Addr} {od : Option Addr} {its : Array Value} {n : Nat} {sl : Array (Option Value)}
theorem globD_int {i : Int} {t : Tok} (X : K.In h) (G : h.Ns mainGlobals mg) (a : PySem.W.nsIn K mainGlobals x = some (some (.int i t))) : GlobD K mg x tInt i :=
  ⟨_, .int i, PySem.W.mg_of X G a, ⟨t, rfl⟩, fun _ => rfl⟩
theorem globD_str {i : Str} {t : Tok} (X : K.In h) (G : h.Ns mainGlobals mg) (a : PySem.W.nsIn K mainGlobals x = some (some (.str i t))) : GlobD K mg x tStr i :=
  ⟨_, .str i, PySem.W.mg_of X G a, ⟨t, rfl⟩, fun _ => rfl⟩
theorem globD_ints {ns : List Int} (X : K.In h) (G : h.Ns mainGlobals mg) (a : PySem.W.nsIn K mainGlobals x = some (some (.ref A))) (l : K.lookup A = some ⟨.type "tuple", od, .seq its n, sl⟩) (q : isIntsB its.toList ns = true) (hz : ns.length ≤ 16777216 := by decide) : GlobD K mg x (tRow tInt) ns := by
  have hv := isIntsB_vals q
  have hlen := hv.length
  rw [List.length_map] at hlen
  refine ⟨.ref A, .ref A, PySem.W.mg_of X G a, rfl, fun H => ⟨A, ns.map V.int, rfl, .inr ⟨_, its, n, l, rfl, rfl, ?_, hv⟩, Paired.ints⟩⟩
  rw [sizeLine_eq, ← Array.length_toList, ← hlen]; exact hz
theorem globD_strs {ns : List Str} (X : K.In h) (G : h.Ns mainGlobals mg) (a : PySem.W.nsIn K mainGlobals x = some (some (.ref A))) (l : K.lookup A = some ⟨.type "tuple", od, .seq its n, sl⟩) (q : isStrsB its.toList ns = true) (hz : ns.length ≤ 16777216 := by decide) : GlobD K mg x (tRow tStr) ns := by
  have hv := isStrsB_vals q
  have hlen := hv.length
  rw [List.length_map] at hlen
  refine ⟨.ref A, .ref A, PySem.W.mg_of X G a, rfl, fun H => ⟨A, ns.map V.str, rfl, .inr ⟨_, its, n, l, rfl, rfl, ?_, hv⟩, Paired.strs⟩⟩
  rw [sizeLine_eq, ← Array.length_toList, ← hlen]; exact hz
end
end T

set_option maxRecDepth 100000
set_option maxHeartbeats 4000000
namespace T
open PySem PySem.Spec PyProof.Rows L2
def tRec4 {α β γ δ : Type} (A : Dt α) (B : Dt β) (C : Dt γ) (E : Dt δ) : Dt (α × β × γ × δ) := ⟨fun K H x v => ∃ p v1 v2 v3 v4, v = .ref p ∧ SqT K H p [v1, v2, v3, v4] ∧ A.rep K H x.1 v1 ∧ B.rep K H x.2.1 v2 ∧ C.rep K H x.2.2.1 v3 ∧ E.rep K H x.2.2.2 v4,
  fun e ⟨p, v1, v2, v3, v4, h1, h2, h3, h4, h5, h6⟩ => ⟨p, v1, v2, v3, v4, h1, SqT.mono e h2, A.mono e h3, B.mono e h4, C.mono e h5, E.mono e h6⟩⟩
def asRec2 {α : Type} : List α → M (α × α)
  | [a, b] => ok (a, b)
  | _ => stuck
def asRec3 {α : Type} : List α → M (α × α × α)
  | [a, b, c] => ok (a, b, c)
  | _ => stuck
def asRec4 {α : Type} : List α → M (α × α × α × α)
  | [a, b, c, d] => ok (a, b, c, d)
  | _ => stuck
section
variable {X : Cx} {G : Ctx} {Γ : Vw} {α β γ δ τ ρ θ C C' : Type} {a b c e it tg : Expr} {pos : Pos} {st : Stmt} {rest B : List Stmt} {R : Rp ρ} {Z : θ → Dest ρ}
/-- a conversion of data that nobody makes -/
theorem E_as {A : Dt α} {B : Dt β} {f : α → M β} {r : M α} (nx : NX1 f) (h : ET X G Γ a (dat A) r) (hf : ∀ K H x v y, A.rep K H x v → f x = ok y → B.rep K H y v) : ET X G Γ a (dat B) (r.bind f) := fun w =>
  (h w).weak fun σ H Q ⟨H0, D0, D, os, hr, x, hx, hp⟩ => by
    rcases bind_some hx with ⟨y, rfl, hy⟩ | ⟨e, rfl, rfl⟩
    · cases x with
      | ok z => exact ⟨H0, D0, D, os, hr, _, rfl, fun v H' D' fp e ⟨h1, h2⟩ g => hp v H' D' fp e ⟨h1, hf _ _ _ _ _ h2 hy⟩ g⟩
      | ex e => exact absurd hy (nx _ _)
    · exact ⟨H0, D0, D, os, hr, _, rfl, hp⟩
theorem E_asRec2 {A : Dt α} {r : M (List α)} (h : ET X G Γ a (dat (tRow A)) r) : ET X G Γ a (dat (tRec2 A A)) (r.bind asRec2) :=
  E_as (fun x e z => by unfold asRec2 at z; split at z <;> cases z) h fun K H x v y ⟨p, vs, e, h1, h2⟩ hy => by
    unfold asRec2 at hy
    split at hy
    · cases hy
      cases h2 with
      | cons r1 t => cases t with
        | cons r2 t => cases t; exact ⟨p, _, _, e, h1, r1, r2⟩
    · cases hy
theorem E_asRec3 {A : Dt α} {r : M (List α)} (h : ET X G Γ a (dat (tRow A)) r) : ET X G Γ a (dat (tRec3 A A A)) (r.bind asRec3) :=
  E_as (fun x e z => by unfold asRec3 at z; split at z <;> cases z) h fun K H x v y ⟨p, vs, e, h1, h2⟩ hy => by
    unfold asRec3 at hy
    split at hy
    · cases hy
      cases h2 with
      | cons r1 t => cases t with
        | cons r2 t => cases t with
          | cons r3 t => cases t; exact ⟨p, _, _, _, e, h1, r1, r2, r3⟩
    · cases hy
theorem E_asRec4 {A : Dt α} {r : M (List α)} (h : ET X G Γ a (dat (tRow A)) r) : ET X G Γ a (dat (tRec4 A A A A)) (r.bind asRec4) :=
  E_as (fun x e z => by unfold asRec4 at z; split at z <;> cases z) h fun K H x v y ⟨p, vs, e, h1, h2⟩ hy => by
    unfold asRec4 at hy
    split at hy
    · cases hy
      cases h2 with
      | cons r1 t => cases t with
        | cons r2 t => cases t with
          | cons r3 t => cases t with
            | cons r4 t => cases t; exact ⟨p, _, _, _, _, e, h1, r1, r2, r3, r4⟩
    · cases hy
theorem G_rec4K (K0 : Fr) {t1 t2 t3 t4 : Expr} {s1 s2 s3 s4 : List Nat} {A : Dt α} {B : Dt β} {C : Dt γ} {E : Dt δ} {u1 : α → Vw → Vw} {u2 : β → Vw → Vw} {u3 : γ → Vw → Vw} {u4 : δ → Vw → Vw} {g1 g2 g3 g4 : TG} {k : Nat} {p : Pos} (h1 : GT X t1 s1 A u1 g1) (h2 : GT X t2 s2 B u2 g2) (h3 : GT X t3 s3 C u3 g3) (h4 : GT X t4 s4 E u4 g4) (hK : X.K = K0 := by rfl)
    (hs1 : (assignEach [t1, t2, t3, t4] X.env).map (·.2) = assign t1 X.env :: (assignEach [t2, t3, t4] X.env).map (·.2) := by rfl) (hs2 : (assignEach [t2, t3, t4] X.env).map (·.2) = assign t2 X.env :: (assignEach [t3, t4] X.env).map (·.2) := by rfl) (hs3 : (assignEach [t3, t4] X.env).map (·.2) = assign t3 X.env :: (assignEach [t4] X.env).map (·.2) := by rfl) (hs4 : (assignEach [t4] X.env).map (·.2) = assign t4 X.env :: (assignEach [] X.env).map (·.2) := by rfl)
    (hn : (assignEach [t1, t2, t3, t4] X.env).length = 4 := by rfl) (hst : (assignEach [t1, t2, t3, t4] X.env).findIdx? (·.1) = none := by rfl) : GT X (.Tuple [t1, t2, t3, t4] k p) (s1 ++ s2 ++ s3 ++ s4) (tRec4 A B C E) (fun x Γ => u4 x.2.2.2 (u3 x.2.2.1 (u2 x.2.1 (u1 x.1 Γ)))) (gTup K0 4 (gCons g1 (gCons g2 (gCons g3 (gCons g4 gNil))))) := by
  subst hK
  exact ⟨fun nd hc => by
    obtain ⟨p1, q1⟩ := h1.ex nd hc
    obtain ⟨p2, q2⟩ := h2.ex nd hc
    obtain ⟨p3, q3⟩ := h3.ex nd hc
    obtain ⟨p4, q4⟩ := h4.ex nd hc
    refine ⟨pg_tup hc (pgs_cons p1 (pgs_cons p2 (pgs_cons p3 (pgs_cons p4 pgs_nil hs4) hs3) hs2) hs1) hn hst, fun H0 D0 H D Γ σ os x v Q hl hr ⟨p, v1, v2, v3, v4, r1, r2, r3, r4, r5, r6⟩ k => ?_⟩
    refine ⟨p, [v1, v2, v3, v4], r1, SqT.mono hr.le r2, rfl, v1, [v2, v3, v4], rfl, q1 H0 D0 H D Γ σ os x.1 v1 _ hl hr r3 fun σ' os' hl' hw' hr' => ⟨v2, [v3, v4], rfl, q2 H0 D0 H D _ σ' os' x.2.1 v2 _ hl' hr' r4 fun σ2 os2 hl2 hw2 hr2 => ⟨v3, [v4], rfl, q3 H0 D0 H D _ σ2 os2 x.2.2.1 v3 _ hl2 hr2 r5 fun σ3 os3 hl3 hw3 hr3 => ⟨v4, [], rfl, q4 H0 D0 H D _ σ3 os3 x.2.2.2 v4 _ hl3 hr3 r6 fun σ4 os4 hl4 hw4 hr4 => ⟨rfl, k σ4 os4 hl4 (fun vs h => ?_) hr4⟩⟩⟩⟩⟩
    rw [hw4 vs fun i hi => h i (List.mem_append_right _ hi), hw3 vs fun i hi => h i (List.mem_append_left _ (List.mem_append_right _ hi)), hw2 vs fun i hi => h i (List.mem_append_left _ (List.mem_append_left _ (List.mem_append_right _ hi))), hw' vs fun i hi => h i (List.mem_append_left _ (List.mem_append_left _ (List.mem_append_left _ hi)))]⟩
end
/-- a def that hands back nothing: it falls off its end -/
theorem fn_fall {P : Program} {w : World} {K : Fr} {mg : Str → Option Value} {base : Heap} {x : Str} {st : Stmt} {f : Addr} {fd : FuncData} {N ps : List Str} {k : Nat} {τ : Type} {B : Ap τ} {m : τ → M Unit} (F : Fun K x x st f fd) (S : FnScope N ps (defScope st)) (hl : B.len = ps.length)
    (body : ∀ (cdv : Value) (A : Around) (outer : List Env) (s : Shared) (H : Hp) (E : XK) (t : τ),
      JB (cxOf (L2.CX P w) P w K mg base N x (defScope st) f cdv A outer s H E) ⟨fun c d _ H => E c d H, [], k, true⟩ (B.view 0 t) (defBody st) (dat tNone) (fun _ : Unit => .nx []) (m t)) : FnOk P w K mg base (L2.CX P w) (k + 1) f fd ps (spT K mg B (dat tNone) m) :=
  fn_of' (fun _ : Unit => .nx []) (fun r => r) F S hl (fun r x hx => ⟨x, hx, by cases x with | ok a => exact .inl ⟨a, rfl, ⟨(), rfl, fun _ _ _ => ⟨rfl, rfl⟩⟩⟩ | ex e => exact .inr ⟨e, rfl, rfl⟩⟩) fun cdv A outer s H E t => ⟨_, rfl, body cdv A outer s H E t⟩
theorem fx_fall {P : Program} {w : World} {K : Fr} {mg : Str → Option Value} {base : Heap} {x : Str} {st : Stmt} (N ps : List Str) {k : Nat} {τ : Type} {B : Ap τ} {m : τ → M Unit} (h : DefAt K mg x st) (S : FnScope N ps (defScope st)) (hl : B.len = ps.length)
    (hb : ∀ (kV doc pm : Value) (an : Option Addr) (cdv ct : Value) (us : List Value), us.length = ps.length → bindArgs (PySem.W.fnOf x x (defArgs st) (defBody st) (defScope st) .none kV doc pm an cdv ct) ⟨us, []⟩ = pure (ps.zip us))
    (body : ∀ (cdv : Value) (f : Addr) (A : Around) (outer : List Env) (s : Shared) (H : Hp) (E : XK) (t : τ),
      JB (cxOf (L2.CX P w) P w K mg base N x (defScope st) f cdv A outer s H E) ⟨fun c d _ H => E c d H, [], k, true⟩ (B.view 0 t) (defBody st) (dat tNone) (fun _ : Unit => .nx []) (m t)) : Fx P w K mg base x (k + 1) B (dat tNone) m := by
  obtain ⟨f, fd, F, hm⟩ := h.ex
  exact ⟨f, fd, ps, fn_fall F S hl fun cdv A outer s H E t => body cdv f A outer s H E t, hm, F.kp, F.binds hb⟩
end T

set_option maxRecDepth 100000
set_option maxHeartbeats 4000000
namespace T
open PySem PySem.Spec PyProof.Rows L2

/-! ### exceptions of the program's own -/
/-- an own class without an own __init__ -/
structure XPl (K : Fr) (mg : Str → Option Value) (x : Str) : Prop where
  ex : ∃ C, mg x = some (.ref C) ∧ PySem.W.excIn K C [.type "ValueError", .type "Exception", .type "BaseException", .type "object"] "ValueError.__new__" = true ∧ PySem.W.keepIn K (.ref C) = true ∧
    PySem.W.subIn K (.ref C) (.type "BaseException") = some true ∧ PySem.W.typeIn K (.ref C) = some (.type "type")
section
variable {X : Cx} {G : Ctx} {Γ : Vw} {α β γ δ τ ρ θ C C' : Type} {a b c e it tg : Expr} {pos : Pos} {st : Stmt} {rest B : List Stmt} {R : Rp ρ} {Z : θ → Dest ρ}
theorem S_raise {x m : Str} {j : Nat} {p p2 p3 : Pos} (F : XPl X.K X.mg x) (is : List Nat) (hv : pick is Γ = G.Vx := by rfl) (hc : G.c = true := by rfl) (hg : Gl X x := by rfl) (hd : (x == ("__debug__" : Str)) = false := by decide) :
    JS X G Γ (.Raise (some (.Call (.Name x p) [.Constant (.str m) j p2] [] p3)) none pos) R Z (exc ⟨x, []⟩ : M θ) := fun w => by
  obtain ⟨Cl, hm, xP, kP, bP, tP⟩ := F.ex
  refine (ps_raise (w.calm hc) w.tk (pmk_own PySem.F.excBase_ValueError xP hm kP (raises_own bP tP) hg hd)).weak fun E σ H ⟨H0, D0, D, os, hr, y, hx, hp⟩ => ?_
  cases hx
  obtain ⟨os', q⟩ := hr.pick is
  rw [hv] at q
  exact hp (.ref Cl) none σ H D os' q ⟨Cl, hm, rfl, rfl⟩
end
/-- how a value lies in an exception's field -/
structure Xfd {α : Type} (A : Dt α) where
  f : α → XF
  h : ∀ {K : Fr} {D : Hp} {x : α} {v : L2.V}, A.rep K D x v → XFrep K D (f x) v
@[reducible] def xInt : Xfd tInt := ⟨.int, fun h => h⟩
@[reducible] def xRow : Xfd (tRow tInt) := ⟨.row, fun h => h⟩
@[reducible] def xStr : Xfd tStr := ⟨.str, fun h => h⟩
/-- __init__(self, f1, f2): self.f1 = f1; self.f2 = f2 -/
def spI2 (C : Addr) (f1 f2 : Str) : Sp := fun vs H Q _ => ∃ (a : Addr) (v1 v2 : L2.V), vs = [.ref a, v1, v2] ∧ H a = some (exo a C none) ∧
  ∀ dx, H dx = none → dx ≠ a → Q .non (upd (upd (upd H dx (exd dx [(f1, v1)])) a (exo a C (some dx))) dx (exd dx [(f2, v2), (f1, v1)]))
def spI1 (C : Addr) (f1 : Str) : Sp := fun vs H Q _ => ∃ (a : Addr) (v1 : L2.V), vs = [.ref a, v1] ∧ H a = some (exo a C none) ∧
  ∀ dx, H dx = none → dx ≠ a → Q .non (upd (upd H dx (exd dx [(f1, v1)])) a (exo a C (some dx)))
/-- an own class with such an __init__ -/
structure XI2 (P : Program) (w : World) (K : Fr) (mg : Str → Option Value) (base : Heap) (x f1 f2 : Str) : Prop where
  ex : ∃ C fI fd, mg x = some (.ref C) ∧ OexC K C ∧ PySem.W.findIn K (.ref C) "__init__" = some (some (.ref fI)) ∧ PySem.W.typeIn K (.ref fI) = some (.type "function") ∧
    FnOk P w K mg base CX0 1 fI fd (["self", f1, f2] : List Str) (spI2 C f1 f2) ∧ Binds K fd (["self", f1, f2] : List Str) []
structure XI1 (P : Program) (w : World) (K : Fr) (mg : Str → Option Value) (base : Heap) (x f1 : Str) : Prop where
  ex : ∃ C fI fd, mg x = some (.ref C) ∧ OexC K C ∧ PySem.W.findIn K (.ref C) "__init__" = some (some (.ref fI)) ∧ PySem.W.typeIn K (.ref fI) = some (.type "function") ∧
    FnOk P w K mg base CX0 1 fI fd (["self", f1] : List Str) (spI1 C f1) ∧ Binds K fd (["self", f1] : List Str) []
section
variable {X : Cx} {G : Ctx} {Γ : Vw} {α β γ δ τ ρ θ C C' : Type} {a b c e it tg : Expr} {pos : Pos} {st : Stmt} {rest B : List Stmt} {R : Rp ρ} {Z : θ → Dest ρ}
theorem upd_del {H : Hp} {a dx : Addr} {u o1 o2 o3 : HO} (ha : H a = none) (hne : dx ≠ a) : upd (del (upd (upd (upd (upd H a u) dx o1) a o2) dx o3) a) dx o1 = upd H dx o1 := by
  funext b
  by_cases h1 : b = dx
  · rw [h1, upd_same, upd_same]
  · rw [upd_ne h1, upd_ne h1]
    by_cases h2 : b = a
    · rw [h2, del_same, ha]
    · rw [del_ne h2, upd_ne h1, upd_ne h2, upd_ne h1, upd_ne h2]
theorem upd_del2 {H : Hp} {a dx : Addr} {u o1 o2 o3 o4 : HO} (ha : H a = none) (hne : dx ≠ a) : upd (del (upd (upd (upd (upd H a u) dx o1) a o2) dx o3) a) dx o4 = upd H dx o4 := by
  funext b
  by_cases h1 : b = dx
  · rw [h1, upd_same, upd_same]
  · rw [upd_ne h1, upd_ne h1]
    by_cases h2 : b = a
    · rw [h2, del_same, ha]
    · rw [del_ne h2, upd_ne h1, upd_ne h2, upd_ne h1, upd_ne h2]
theorem S_raise2 {x f1 f2 : Str} {A : Dt α} {B : Dt β} {p p3 : Pos} {e1 e2 : Expr} {r : M θ} (F : XI2 X.prog X.w X.K X.mg X.base x f1 f2) (xa : Xfd A) (xb : Xfd B) (hk : 2 ≤ G.k)
    (ha : AR X G Γ [e1, e2] (.cons A (.cons B .nil)) (fun t => (exc ⟨x, [(f2, xb.f t.2.1), (f1, xa.f t.1)]⟩ : M θ)) r) (is : List Nat) (hv : pick is Γ = G.Vx := by rfl) (hc : G.c = true := by rfl) (hg : Gl X x := by rfl) (hd : (x == ("__debug__" : Str)) = false := by decide)
    (he : starEach [e1, e2] X.env = (false, eval e1 X.env) :: starEach [e2] X.env := by rfl) (hpl : (backTo p3 (starEach [e2] X.env)).any (·.1) = false := by rfl) :
    JS X G Γ (.Raise (some (.Call (.Name x p) [e1, e2] [] p3)) none pos) R Z r := fun w => by
  obtain ⟨Cl, fI, fd, hm, T, iC, tI, Fn, hb⟩ := F.ex
  refine (ps_raise (w.calm hc) w.tk (pmk_oex (k := 1) T iC tI Fn ((w.room hc).mono hk) hb .nil pass0 hg hm (ha w) hd he hpl)).weak fun E σ H ⟨H0, D0, D, os, hr, y, hx, hp⟩ => ?_
  refine ⟨H0, D0, D, os, y, fun H1 D1 y => jPost X.K X.mg G H0 D0 R Z E y, hr, hx, hp, fun _ _ _ _ _ _ h => h, fun e z => by subst z; exact fun c d H' D' os' r q => hp c d σ H' D' os' r q, fun t vs H1 D1 hk1 e1 ht hp1 => ?_⟩
  cases hk1
  obtain ⟨v1, r1, rfl, h1, v2, r2, rfl, h2, rfl⟩ := ht
  refine ⟨by show 2 ≤ 1000; decide, fun a na => ⟨a, v1, v2, rfl, upd_same, fun dx hn hne => ⟨rfl, dx, [(f2, v2), (f1, v1)], ?_, upd_same, ?_, ?_⟩⟩⟩
  · rw [upd_ne (Ne.symm hne), upd_same]
  · rw [upd_ne hne] at hn; exact hn
  · have hn' : H1 dx = none := by rw [upd_ne hne] at hn; exact hn
    rw [upd_del2 na hne]
    have ex := Ext.laid (o := .xd [(f2, v2), (f1, v1)]) (D := D1) e1.dh hn'
    obtain ⟨os', q⟩ := ((hr.grow e1).grow ex).pick is
    rw [hv] at q
    refine hp1 (.ref Cl) (some dx) σ _ _ os' q ⟨Cl, hm, rfl, dx, _, rfl, upd_same, .cons ⟨rfl, xb.h (B.mono ex.d h2)⟩ (.cons ⟨rfl, xa.h (A.mono ex.d h1)⟩ .nil)⟩
theorem S_raise1 {x f1 : Str} {A : Dt α} {p p3 : Pos} {e1 : Expr} {r : M θ} (F : XI1 X.prog X.w X.K X.mg X.base x f1) (xa : Xfd A) (hk : 2 ≤ G.k)
    (ha : AR X G Γ [e1] (.cons A .nil) (fun t => (exc ⟨x, [(f1, xa.f t.1)]⟩ : M θ)) r) (is : List Nat) (hv : pick is Γ = G.Vx := by rfl) (hc : G.c = true := by rfl) (hg : Gl X x := by rfl) (hd : (x == ("__debug__" : Str)) = false := by decide)
    (he : starEach [e1] X.env = (false, eval e1 X.env) :: starEach [] X.env := by rfl) (hpl : (backTo p3 (starEach [] X.env)).any (·.1) = false := by rfl) :
    JS X G Γ (.Raise (some (.Call (.Name x p) [e1] [] p3)) none pos) R Z r := fun w => by
  obtain ⟨Cl, fI, fd, hm, T, iC, tI, Fn, hb⟩ := F.ex
  refine (ps_raise (w.calm hc) w.tk (pmk_oex (k := 1) T iC tI Fn ((w.room hc).mono hk) hb .nil pass0 hg hm (ha w) hd he hpl)).weak fun E σ H ⟨H0, D0, D, os, hr, y, hx, hp⟩ => ?_
  refine ⟨H0, D0, D, os, y, fun H1 D1 y => jPost X.K X.mg G H0 D0 R Z E y, hr, hx, hp, fun _ _ _ _ _ _ h => h, fun e z => by subst z; exact fun c d H' D' os' r q => hp c d σ H' D' os' r q, fun t vs H1 D1 hk1 e1 ht hp1 => ?_⟩
  cases hk1
  obtain ⟨v1, r1, rfl, h1, rfl⟩ := ht
  refine ⟨by show 1 ≤ 1000; decide, fun a na => ⟨a, v1, rfl, upd_same, fun dx hn hne => ⟨rfl, dx, [(f1, v1)], ?_, ?_, ?_, ?_⟩⟩⟩
  · rw [upd_same]
  · rw [upd_ne hne, upd_same]
  · rw [upd_ne hne] at hn; exact hn
  · have hn' : H1 dx = none := by rw [upd_ne hne] at hn; exact hn
    have eq : upd (del (upd (upd (upd H1 a (exo a Cl none)) dx (exd dx [(f1, v1)])) a (exo a Cl (some dx))) a) dx (.xd [(f1, v1)]) = upd H1 dx (.xd [(f1, v1)]) := by
      funext b
      by_cases z1 : b = dx
      · rw [z1, upd_same, upd_same]
      · rw [upd_ne z1, upd_ne z1]
        by_cases z2 : b = a
        · rw [z2, del_same, na]
        · rw [del_ne z2, upd_ne z2, upd_ne z1, upd_ne z2]
    rw [eq]
    have ex := Ext.laid (o := .xd [(f1, v1)]) (D := D1) e1.dh hn'
    obtain ⟨os', q⟩ := ((hr.grow e1).grow ex).pick is
    rw [hv] at q
    refine hp1 (.ref Cl) (some dx) σ _ _ os' q ⟨Cl, hm, rfl, dx, _, rfl, upd_same, .cons ⟨rfl, xa.h (A.mono ex.d h1)⟩ .nil⟩

/-! ### try .. except X -/
/-- which of the classes named in the table stand under x -/
structure XSub (K : Fr) (mg : Str → Option Value) (x : Str) (tbl : List (Str × Bool)) : Prop where
  ex : ∃ C, mg x = some (.ref C) ∧ ∀ n b, tbl.lookup n = some b → ∀ Cn, mg n = some (.ref Cn) → PySem.W.exmOne K (.ref Cn) (.ref C) = some b
def tryM {θ : Type} (tbl : List (Str × Bool)) (rb rs : M θ) : M θ := match rb with
  | none => none
  | some (.ok a) => ok a
  | some (.ex e) => match tbl.lookup e.cls with
    | some true => noX rs
    | some false => exc e
    | none => none
theorem tryM_ok {θ : Type} (tbl : List (Str × Bool)) (a : θ) (rs : M θ) : tryM tbl (ok a) rs = ok a := rfl
theorem S_try {x : Str} {body suite : List Stmt} {b0 : Stmt} {np pos' : Pos} (tbl : List (Str × Bool)) {rb rs : M θ} (F : XSub X.K X.mg x tbl) (is iv : List Nat)
    (hb : ∀ (W : WX) (pn : List (Addr × Obj)) (xe : Value → Shared → Prop), JB (X.tr pn xe) ⟨W, pick is Γ, G.k, G.c⟩ Γ body R Z rb)
    (hs : ∀ (a : Addr) (pn : List (Addr × Obj)), JB (X.suite a pn) ⟨fun _ _ _ _ => False, [], G.k, false⟩ (pick is Γ) (b0 :: suite) R Z rs)
    (hv : pick iv (pick is Γ) = G.Vx := by rfl) (hg : Gl X x := by rfl) (hd : (x == ("__debug__" : Str)) = false := by decide)
    (hst : X.stack = X.env :: X.outer := by rfl) (hf : X.env.frame = some X.env.locals := by rfl) :
    JS X G Γ (.Try body [.ExceptHandler (some (.Name x np)) none (b0 :: suite) pos'] [] [] pos) R Z (tryM tbl rb rs) := fun w => by
  obtain ⟨Cl, hm, hsub⟩ := F.ex
  refine (ps_try_only (tb := fun W => tJ X.K X.mg ⟨W, pick is Γ, G.k, G.c⟩ Γ R Z rb) (ts := fun a cls d => tJ X.K X.mg ⟨fun _ _ _ _ => False, [], G.k, false⟩ (pick is Γ) R Z rs) hst hf ⟨hg, hd, .inl hm⟩ w.tk
    (fun W pn xe tk po => hb W pn xe ⟨tk, w.nd, w.room, w.calm, w.hu, po⟩)
    (fun a oe cls d pn hz hf => hs a _ ⟨takes0, w.nd, (fun z => nomatch z), (fun z => nomatch z), w.hu, PassesOwn.never⟩)).weak fun E σ H ⟨H0, D0, D, os, hr, y, hx, hp⟩ => ?_
  cases rb with
  | none => cases hx
  | some rb =>
    cases rb with
    | ok t =>
      cases hx
      exact ⟨H0, D0, D, os, hr, _, rfl, hp⟩
    | ex e =>
      refine ⟨H0, D0, D, os, hr, _, rfl, fun c d σ' H' D' os' r q => ?_⟩
      obtain ⟨Cn, hn, rfl, hfs⟩ := id q
      have hx : (match tbl.lookup e.cls with | some true => noX rs | some false => exc e | none => none) = some y := hx
      cases hl : tbl.lookup e.cls with
      | none => rw [hl] at hx; cases hx
      | some b =>
        rw [hl] at hx
        refine ⟨b, hsub _ _ hl _ hn, fun hb a _ => ?_, fun hb => ?_⟩
        · subst hb
          obtain ⟨t, rfl, rfl⟩ := noX_some hx
          exact ⟨H0, D0, D', os', r, _, rfl, hp⟩
        · subst hb
          cases hx
          obtain ⟨os2, q2⟩ := r.pick iv
          rw [hv] at q2
          exact hp _ d σ' H' D' os2 q2 q
end
end T

set_option maxRecDepth 100000
set_option maxHeartbeats 4000000
namespace T
open PySem PySem.Spec PyProof.Rows L2

/-! ### objects with fields, made once -/
def XFp (K : Fr) (D : Hp) (p : Str × XF) (q : Str × L2.V) : Prop := p.1 = q.1 ∧ XFrep K D p.2 q.2
theorem XFrep.mono {K : Fr} {D D' : Hp} (e : Le D D') : ∀ {x : XF} {v : L2.V}, XFrep K D x v → XFrep K D' x v
  | .int _, _, h => h
  | .row _, _, h => (tRow tInt).mono e h
  | .str _, _, h => h
theorem XFp.monos {K : Fr} {D D' : Hp} (e : Le D D') : ∀ {xs : List (Str × XF)} {vs : List (Str × L2.V)}, Paired (XFp K D) xs vs → Paired (XFp K D') xs vs
  | _, _, .nil => .nil
  | _, _, .cons r t => .cons ⟨r.1, r.2.mono e⟩ (XFp.monos e t)
def putX (f : Str) (x : XF) : List (Str × XF) → List (Str × XF)
  | [] => [(f, x)]
  | (g, y) :: r => if g = f then (g, x) :: r else (g, y) :: putX f x r
theorem putX_le {f : Str} {x : XF} {n : Nat} : ∀ {l : List (Str × XF)}, l.length ≤ n → (putX f x l).length ≤ n + 1
  | [], _ => by show 1 ≤ n + 1; omega
  | (g, y) :: r, h => by
    unfold putX
    by_cases z : g = f
    · rw [if_pos z]; show r.length + 1 ≤ n + 1; have h' : r.length + 1 ≤ n := h; omega
    · rw [if_neg z]
      have h' : r.length + 1 ≤ n := h
      have := putX_le (f := f) (x := x) (n := n - 1) (l := r) (by omega)
      show (putX f x r).length + 1 ≤ n + 1
      omega
theorem fs_lt {fs : List (Str × XF)} {n : Nat} (h : fs.length ≤ n) (k : Nat.ble (n + 1) 1000 = true := by rfl) : fs.length < 1000 := by have := Nat.le_of_ble_eq_true k; omega
theorem putX_rep {K : Fr} {D : Hp} {f : Str} {x : XF} {v : L2.V} (h : XFrep K D x v) : ∀ {xs : List (Str × XF)} {vs : List (Str × L2.V)}, Paired (XFp K D) xs vs → Paired (XFp K D) (putX f x xs) (putF f v vs)
  | _, _, .nil => .cons ⟨rfl, h⟩ .nil
  | (g, y) :: _, (g', u) :: _, .cons r t => by
    obtain ⟨e, hr⟩ := r
    have e : g = g' := e
    subst e
    unfold putX putF
    by_cases z : g = f
    · rw [if_pos z, if_pos z]; exact .cons ⟨rfl, h⟩ t
    · rw [if_neg z, if_neg z]; exact .cons ⟨rfl, hr⟩ (putX_rep h t)
theorem XFp.look {K : Fr} {D : Hp} {f : Str} {x : XF} : ∀ {xs : List (Str × XF)} {vs : List (Str × L2.V)}, Paired (XFp K D) xs vs → xs.lookup f = some x → ∃ v, vs.lookup f = some v ∧ XFrep K D x v
  | _, _, .nil, h => nomatch h
  | (g, y) :: _, (g', u) :: _, .cons r t, h => by
    obtain ⟨e, hr⟩ := r
    have e : g = g' := e
    subst e
    by_cases z : (f == g) = true
    · simp only [List.lookup, z] at h ⊢
      cases h
      exact ⟨u, rfl, hr⟩
    · have z' : (f == g) = false := by simpa using z
      simp only [List.lookup, z'] at h ⊢
      exact XFp.look t h
/-- an object that nobody changes any more -/
def tObj {ρ : Type} (toF : ρ → List (Str × XF)) : Dt ρ := ⟨fun K H x v => ∃ p Cl dx vs, v = .ref p ∧ H p = some (.ins Cl dx vs) ∧ Cls K Cl ∧ (∀ f ∈ (toF x).map (·.1), NoAttr K Cl f) ∧ Paired (XFp K H) (toF x) vs,
  fun {K H H' a v} e h => by
    obtain ⟨p, Cl, dx, vs, h1, h2, h3, h4, h5⟩ := h
    exact ⟨p, Cl, dx, vs, h1, e _ _ h2, h3, h4, XFp.monos e h5⟩⟩
/-- an object in the making -/
def oI (C a : Addr) : Rp (List (Str × XF)) := ⟨fun K H D fp fs v => ∃ dx vs, v = .ref a ∧ fp = [a] ∧ H a = some (.ins C dx vs) ∧ Paired (XFp K D) fs vs,
  fun e d ⟨dx, vs, h1, h2, h3, h4⟩ => ⟨dx, vs, h1, h2, e _ _ h3, XFp.monos d h4⟩⟩
theorem oI_st (C a : Addr) : Stable (oI C a) := fun K H H' D D' fp _ v k d ⟨dx, vs, h1, h2, h3, h4⟩ =>
  ⟨dx, vs, h1, h2, by rw [k a (by rw [h2]; exact List.mem_cons_self)]; exact h3, XFp.monos d h4⟩
abbrev eI (i : Nat) (C a : Addr) (fs : List (Str × XF)) : Ent := ⟨i, List (Str × XF), oI C a, oI_st C a, fs⟩
/-- a field's value, read back -/
structure Yfd {α : Type} (A : Dt α) extends Xfd A where
  r : ∀ {K : Fr} {D : Hp} {x : α} {v : L2.V}, XFrep K D (f x) v → A.rep K D x v
@[reducible] def yInt : Yfd tInt := ⟨xInt, fun h => h⟩
@[reducible] def yRow : Yfd (tRow tInt) := ⟨xRow, fun h => h⟩
@[reducible] def yStr : Yfd tStr := ⟨xStr, fun h => h⟩
section
variable {X : Cx} {G : Ctx} {Γ : Vw} {α β γ δ τ ρ θ C C' : Type} {a b c e it tg : Expr} {pos : Pos} {st : Stmt} {rest : List Stmt} {R : Rp ρ} {Z : θ → Dest ρ}
theorem E_att {f : Str} {A : Dt α} {toF : ρ → List (Str × XF)} {ra : M ρ} (y : Yfd A) (g : ρ → α) (hl : ∀ x, (toF x).lookup f = some (y.f (g x))) (ha : ET X G Γ a (dat (tObj toF)) ra) (hb : attributeBase a f X.env (eval a X.env) = eval a X.env := by rfl) :
    ET X G Γ (.Attribute a f pos) (dat A) (ra.bind fun x => ok (g x)) := fun w =>
  (pe_fld (ha w) hb).weak fun σ H Q ⟨H0, D0, D, os, hr, x, hx, hp⟩ => seqEE hr hx hp fun z H1 D1 fp v _ hx1 e1 r1 f1 hr1 hp1 => by
    cases hx1
    obtain ⟨_, p, Cl, dx, vs, rfl, h1, h2, h3, h4⟩ := r1
    obtain ⟨u, hu, ru⟩ := XFp.look h4 (hl z)
    refine ⟨p, Cl, dx, vs, u, rfl, e1.dh _ _ h1, h2, h3 f ?_, hu, hp1.here hr1 (y.r ru)⟩
    have : ∀ {l : List (Str × XF)} {w : XF}, l.lookup f = some w → f ∈ l.map (·.1) := by
      intro l
      induction l with
      | nil => intro w z; cases z
      | cons q l ih =>
        intro w z
        obtain ⟨g', y'⟩ := q
        by_cases z2 : (f == g') = true
        · rw [List.map_cons, show f = g' from eq_of_beq z2]; exact List.mem_cons_self
        · have z' : (f == g') = false := by simpa using z2
          simp only [List.lookup, z'] at z
          exact List.mem_cons_of_mem _ (ih z)
    exact this (hl z)
/-- self.f = e, in __init__ -/
theorem S_fld (i : Nat) {x f : Str} {C q : Addr} {A : Dt α} {fs : List (Str × XF)} {re : M α} {p p' : Pos} (y : Xfd A) (cC : Cls X.K C) (hn : NoAttr X.K C f) (he : ET X G Γ e (dat A) re) (hv : find i Γ = some (eI i C q fs) := by rfl) (hN : X.N[i]? = some x := by rfl)
    (hvis : Vis X.env.scope x := by first | exact Or.inl rfl | exact Or.inr (Or.inl rfl) | exact Or.inr (Or.inr rfl)) (hs : swapsWith e (some (.Attribute (.Name x p) f p')) pos.line X.env = pure false := by rfl) (hle : fs.length < 1000 := by first | exact fs_lt (Nat.le_refl 0) | exact fs_lt (putX_le (Nat.le_refl 0)) | exact fs_lt (putX_le (putX_le (Nat.le_refl 0))) | exact fs_lt (putX_le (putX_le (putX_le (Nat.le_refl 0)))) | exact fs_lt (putX_le (putX_le (putX_le (putX_le (Nat.le_refl 0))))))
    (hd : (x == ("__debug__" : Str)) = false := by decide) (hcd : (x == ("__classdict__" : Str)) = false := by decide) :
    JS X G Γ (.Assign [.Attribute (.Name x p) f p'] e pos) R (fun v => .nx (put (eI i C q (putX f (y.f v) fs)) Γ)) re := fun w =>
  (ps_fld (pe_var hN hvis hd hcd) (he w) hs).weak fun E σ H ⟨H0, D0, D, os, hr, x, hx, hp⟩ => by
    obtain ⟨fp, os', v, q1, ⟨dx, vs, rfl, rfl, r3, r4⟩, q3, q4, q5⟩ := hr.hold.find hv hr.nd
    refine ⟨H0, D0, D, os, hr, x, hx, ?_⟩
    cases x with
    | ex e => exact fun c d => hp c d σ
    | ok t =>
      intro v H' D' fp e1 r f1
      refine ⟨.ref q, q1, q, C, dx, vs, rfl, e1.h _ _ r3, cC, hn, ?_, ?_⟩
      · rw [← r4.length]; exact hle
      have hq : q ∈ os := q5 q (List.mem_append_left _ List.mem_cons_self)
      obtain ⟨h1, h2, h3⟩ := (hr.grow e1).own q hq
      have nd := List.nodup_cons.mp q4
      have agree : ∀ b ∈ os', L2.upd H' q (.ins C dx (putF f v vs)) b = H' b := fun b hb => upd_ne (fun z => nd.1 (z ▸ hb))
      have hold' : Hold X.K H' D' σ (T.rmv i Γ) os' := q3.agree (fun b hb => e1.h.eq (hr.own b (q5 b (List.mem_append_right _ hb))).2.2) e1.d
      refine hp σ _ D' (q :: os') ⟨⟨fun b o z => ?_, hr.ext.d.trans e1.d, fun b o z => ?_, (hr.grow e1).ext.out⟩, fun b hb => ?_, q4, ⟨[q], os', rfl, ⟨.ref q, q1, dx, _, rfl, rfl, upd_same, putX_rep (y.h r.2) (XFp.monos e1.d r4)⟩, hold'.agree agree (Same.refl _)⟩⟩
      · rw [upd_ne (ne_of_none z h1)]; exact (hr.grow e1).ext.h b o z
      · rw [upd_ne (ne_of_none z h2)]; exact e1.dh b o z
      · obtain ⟨m1, m2, m3⟩ := (hr.grow e1).own b (q5 b hb)
        refine ⟨m1, m2, ?_⟩
        by_cases z : b = q
        · subst z; rw [upd_same]; simp
        · rw [upd_ne z]; exact m3
end

/-! ### a class's __init__ -/
def spI {τ ρ : Type} (K : Fr) (mg : Str → Option Value) (C : Addr) (B : Ap τ) (toF : ρ → List (Str × XF)) (m : τ → M ρ) : Sp := fun vs H Q E => ∃ a dx us H1 D t, vs = .ref a :: us ∧ H1 a = none ∧ H1 dx = none ∧ dx ≠ a ∧
  H = upd (upd H1 dx (.own a)) a (.ins C dx []) ∧ Le D H1 ∧ B.rep K D t us ∧ ∃ x, m t = some x ∧ match x with
  | .ok r => ∀ H' D', Ext H1 D H' D' → (∃ dx' vs', D' a = some (.ins C dx' vs') ∧ Paired (XFp K D') (toF r) vs') → Q .non H'
  | .ex e => ∀ c d H' D', Ext H1 D H' D' → XRep K mg D' e c d → E c d H'
structure FxI (P : Program) (w : World) (K : Fr) (mg : Str → Option Value) (base : Heap) (x : Str) (k : Nat) {τ ρ : Type} (B : Ap τ) (toF : ρ → List (Str × XF)) (m : τ → M ρ) : Prop where
  ex : ∃ C f fd ps, mg x = some (.ref C) ∧ Mk K C f ∧ Cls K C ∧ (∀ r, ∀ g ∈ (toF r).map (·.1), NoAttr K C g) ∧ Binds K fd ps [] ∧ FnOk P w K mg base (L2.CX P w) k f fd ps (spI K mg C B toF m)
/-- the written part's facts of a class with an __init__ that stands at st -/
structure ClsAt (K : Fr) (mg : Str → Option Value) (x q : Str) (st : Stmt) (gs : List Str) : Prop where
  ex : ∃ C f fd, mg x = some (.ref C) ∧ Mk K C f ∧ Cls K C ∧ (∀ g ∈ gs, NoAttr K C g) ∧ Fun K "__init__" q st f fd
theorem Ap.holdI {K : Fr} {H D : Hp} {more : List (Option L2.V)} {τ : Type} {B : Ap τ} {t : τ} {us : List L2.V} {C a dx : Addr} (h : B.rep K D t us) (ha : H a = some (.ins C dx [])) :
    Hold K H D ((some (.ref a) :: us.map some) ++ more) (eI 0 C a [] :: B.view 1 t) [a] := by
  refine ⟨[a], [], rfl, ⟨.ref a, rfl, dx, [], rfl, rfl, ha, .nil⟩, ?_⟩
  exact Ap.hold (K := K) (H := H) (D := D) (more := more) [some (.ref a)] h
theorem fxi_of {P : Program} {w : World} {K : Fr} {mg : Str → Option Value} {base : Heap} {x q : Str} {st : Stmt} {gs : List Str} (N ps : List Str) {k : Nat} {τ ρ : Type} {B : Ap τ} {toF : ρ → List (Str × XF)} {m : τ → M ρ} (h : ClsAt K mg x q st gs) (S : FnScope N ("self" :: ps) (defScope st)) (hl : B.len = ps.length)
    (hgs : ∀ r, (toF r).map (·.1) = gs)
    (hb : ∀ (kV doc pm : Value) (an : Option Addr) (cdv ct : Value) (us : List Value), us.length = (("self" : Str) :: ps).length → bindArgs (PySem.W.fnOf "__init__" q (defArgs st) (defBody st) (defScope st) .none kV doc pm an cdv ct) ⟨us, []⟩ = pure ((("self" : Str) :: ps).zip us))
    (body : ∀ (C a : Addr) (cdv : Value) (f : Addr) (A : Around) (outer : List Env) (s : Shared) (H : Hp) (E : XK) (t : τ), Cls K C → (∀ g ∈ gs, NoAttr K C g) →
      JB (cxOf (L2.CX P w) P w K mg base N q (defScope st) f cdv A outer s H E) ⟨fun c d _ H => E c d H, [], k, true⟩ (eI 0 C a [] :: B.view 1 t) (defBody st) (dat tNone) (fun r => .nx [eI 0 C a (toF r)]) (m t)) : FxI P w K mg base x (k + 1) B toF m := by
  obtain ⟨C, f, fd, hm, hM, hC, hn, F⟩ := h.ex
  refine ⟨C, f, fd, _, hm, hM, hC, fun r g hg => hn g (by rw [← hgs r]; exact hg), F.binds hb, ?_⟩
  refine F.okX S (fun vs H Q E ⟨a, dx, us, H1, D, t, e, _, _, _, _, _, ht, _⟩ => by rw [e, List.length_cons, List.length_cons, Ap.length ht, hl]) fun cdv A outer s H vs Q E hr ⟨a, dx, us, H1, D, t, e, na, ndx, hne, eH, le, ht, y, hy, hq⟩ => ?_
  subst e; subst eH
  refine ⟨_, body C a cdv f A outer s _ E t hC hn ⟨takes_of rfl rfl rfl rfl, S.nd, fun _ => hr, fun _ => rfl, hr.units, passes_of rfl⟩, ?_⟩
  have nDa : D a = none := le.free na
  have leH : Le H1 (upd (upd H1 dx (.own a)) a (.ins C dx [])) := fun b o z => by
    rw [upd_ne (ne_of_none z na), upd_ne (ne_of_none z ndx)]; exact z
  refine ⟨H1, D, D, [a], ⟨⟨leH, Same.refl _, le.trans leH, fun p e _ => e⟩, fun p hp => ?_, List.nodup_cons.mpr ⟨(fun z => nomatch z), List.nodup_nil⟩, ?_⟩, y, hy, ?_⟩
  · obtain rfl : p = a := by simpa using hp
    exact ⟨na, nDa, by rw [upd_same]; simp⟩
  · exact Ap.holdI ht upd_same
  · cases y with
    | ex e => exact fun c d σ' H' D' os' r => hq c d H' D' r.ext
    | ok r =>
      intro σ' H' D' os' rel
      obtain ⟨fp, os2, e1, ⟨v, h1, dx', vs', e2, e3, h3, h4⟩, h5⟩ := rel.hold
      obtain ⟨o1, o2, o3⟩ := rel.own a (by rw [e1, e3]; exact List.mem_cons_self)
      have hup : Le D' (upd D' a (.ins C dx' vs')) := fun b o z => by rw [upd_ne (ne_of_none z o2)]; exact z
      refine hq H' (upd D' a (.ins C dx' vs')) ⟨rel.ext.h, rel.ext.d.trans hup, fun b o z => ?_, fun b z1 z2 => ?_⟩ ⟨dx', vs', upd_same, XFp.monos hup h4⟩
      · by_cases z3 : b = a
        · subst z3; rw [upd_same] at z; cases z; exact h3
        · rw [upd_ne z3] at z; exact rel.ext.dh b o z
      · by_cases z3 : b = a
        · subst z3; exact absurd o1 z2
        · rw [upd_ne z3]; exact rel.ext.out b z1 z2
def tMkS (C : Addr) (sp : Sp) (E : L2.St → XK) (t : TA) : TE := fun σ H Q => t σ H fun vs H1 => ∀ x dx, H1 x = none → H1 dx = none → dx ≠ x →
  sp (.ref x :: vs) (upd (upd H1 dx (.own x)) x (.ins C dx [])) (fun v H2 => v = .non ∧ Q (.ref x) H2) (E σ)
section
variable {X : Cx} {G : Ctx} {Γ : Vw} {τ ρ : Type} {e : Expr} {es : List Expr} {pos p : Pos}
theorem pe_mkS {C f : Addr} {fd : FuncData} {ps : List Str} {k : Nat} {sp : Sp} {x : Str} {E : L2.St → XK} {ta : TA} (cM : Mk X.K C f) (cF : FnOk X.prog X.w X.K X.mg X.base (L2.CX X.prog X.w) k f fd ps sp) (room : Room (k + 1) X.A) (cg : Gl X x)
    (cm : X.mg x = some (.ref C)) (cb : Binds X.K fd ps []) (pass : ∀ σ, PassesAt (L2.CX X.prog X.w) X σ (E σ)) (args : PA X (e :: es) ta) (hdb : (x == ("__debug__" : Str)) = false := by decide)
    (he : starEach (e :: es) X.env = (false, eval e X.env) :: starEach es X.env := by rfl) (hpl : (backTo pos (starEach es X.env)).any (·.1) = false := by rfl) :
    PE X (.Call (.Name x p) (e :: es) [] pos) (tMkS C sp E ta) := ⟨fun pins s σ H Q I h => by
  refine wpAny_Call_Name_kw (ld_glob I cg cm ?_ hdb)
  refine PySem.W.callWith_K (h₀ := X.base) I.ok.mod.kin cM.kp (thn (args.run pos pins s σ H _ I h) fun us s1 ⟨vs, H1, I1, r, q⟩ => ⟨I1.kIn, ?_⟩) he hpl
  have n0 : s1.heap.objs.size ≤ s1.heap.objs.size + 1 := Nat.le_succ _
  have want := q (s1.heap.objs.size + 1) s1.heap.objs.size (I1.hok.fresh n0) (I1.hok.fresh (Nat.le_refl _)) (Nat.ne_of_lt (Nat.lt_succ_self _))
  have I2 := Inv.made (C := C) I1
  have both : Vals (V.ref (s1.heap.objs.size + 1) :: vs) (Value.ref (s1.heap.objs.size + 1) :: us) := .cons rfl r
  have many : (Value.ref (s1.heap.objs.size + 1) :: us).length = ps.length := by rw [← both.length]; exact cF.len _ _ _ _ want
  have bind := cb _ (Value.ref (s1.heap.objs.size + 1) :: us) I2.kIn (by rw [List.append_nil]; exact many)
  rw [List.append_nil] at bind
  refine wpAny_call (make_map (f := f) I1.kIn cM.makes cM.init (beq_iff_eq.mp cM.fn) (codeAny_mono (cF.run _ X.stack _ _ ⟨Value.ref (s1.heap.objs.size + 1) :: us, []⟩ _ _ _ (E σ) (room.make C us []) (I2.env0.make C us []) bind both want) fun y s' hy => ?_))
  cases y with
  | error err => exact pass σ pins _ _ err s' I2 hy
  | ok fl =>
    cases fl with
    | ret u =>
      obtain ⟨v, H', I3, rv, ev, q3⟩ := I2.after hy
      subst ev
      exact ⟨rv, V.ref (s1.heap.objs.size + 1), H', I3, rfl, q3⟩
    | next => exact hy.elim
    | brk => exact hy.elim
    | cont => exact hy.elim⟩
theorem E_make {x : Str} {k : Nat} {B : Ap τ} {toF : ρ → List (Str × XF)} {m : τ → M ρ} {r : M ρ} (F : FxI X.prog X.w X.K X.mg X.base x k B toF m) (hk : k + 1 ≤ G.k) (ha : AR X G Γ (e :: es) B m r) (is : List Nat) (hv : pick is Γ = G.Vx) (hg : Gl X x := by rfl) (hc : G.c = true := by rfl)
    (hdb : (x == ("__debug__" : Str)) = false := by decide) (he : starEach (e :: es) X.env = (false, eval e X.env) :: starEach es X.env := by rfl) (hpl : (backTo pos (starEach es X.env)).any (·.1) = false := by rfl) :
    ET X G Γ (.Call (.Name x p) (e :: es) [] pos) (dat (tObj toF)) r := fun w => by
  obtain ⟨C, f, fd, ps, hm, hM, hC, hn, hb, F⟩ := F.ex
  refine (pe_mkS (E := WE G.W) hM F ((w.room hc).mono hk) hg hm hb (fun σ => passAt w.tk σ) (ha w) hdb he hpl).weak fun σ H Q ⟨H0, D0, D, os, hr, y, hx, hp⟩ => ?_
  refine ⟨H0, D0, D, os, y, fun H1 D1 y => ePost X.K X.mg G H0 D0 σ H1 D1 (dat (tObj toF)) Q y, hr, hx, hp, fun _ _ _ _ _ e2 h => h.grow e2, fun e z => by subst z; exact hp, fun t vs H1 D1 hk1 e1 ht hp1 => ?_⟩
  refine fun a dx na ndx hne => ⟨a, dx, vs, H1, D1, t, rfl, na, ndx, hne, rfl, e1.dh, ht, y, hk1, ?_⟩
  cases y with
  | ok y => exact fun H' D' e2 ⟨dx', vs', q1, q2⟩ => ⟨rfl, hp1 (.ref a) H' D' [] e2 ⟨rfl, a, C, dx', vs', rfl, q1, hC, hn y, q2⟩ .nil⟩
  | ex er =>
    intro c d H' D' e2 hxr
    obtain ⟨os', q⟩ := ((hr.grow e1).grow e2).pick is
    rw [hv] at q
    exact hp1 c d H' D' os' q hxr
end
end T

set_option maxRecDepth 100000
set_option maxHeartbeats 4000000
namespace T
open PySem PySem.Spec PyProof.Rows L2
/-! ### what the written part says of classes -/
section
variable {P : Program} {w : World} {K : Fr} {mg : Str → Option Value} {base : Heap} {h : Heap} {x : Str} {C : Addr}
theorem xpl_mk (X : K.In h) (G : h.Ns mainGlobals mg) (a : PySem.W.nsIn K mainGlobals x = some (some (.ref C))) (q : PySem.W.excIn K C [.type "ValueError", .type "Exception", .type "BaseException", .type "object"] "ValueError.__new__" = true)
    (k : PySem.W.keepIn K (.ref C) = true) (b : PySem.W.subIn K (.ref C) (.type "BaseException") = some true) (t : PySem.W.typeIn K (.ref C) = some (.type "type")) : XPl K mg x := ⟨C, PySem.W.mg_of X G a, q, k, b, t⟩
def SubRow (K : Fr) (mg : Str → Option Value) (C : Addr) (p : Str × Bool) : Prop := ∃ Cn, mg p.1 = some (.ref Cn) ∧ PySem.W.subIn K (.ref Cn) (.ref C) = some p.2
theorem sub_row (X : K.In h) (G : h.Ns mainGlobals mg) {n : Str} {Cn : Addr} {b : Bool} (a : PySem.W.nsIn K mainGlobals n = some (some (.ref Cn))) (s : PySem.W.subIn K (.ref Cn) (.ref C) = some b) : SubRow K mg C (n, b) := ⟨Cn, PySem.W.mg_of X G a, s⟩
theorem all_nil {α : Type} {P : α → Prop} : ∀ x ∈ ([] : List α), P x := fun _ z => nomatch z
theorem all_cons {α : Type} {P : α → Prop} {a : α} {l : List α} (h : P a) (t : ∀ x ∈ l, P x) : ∀ x ∈ a :: l, P x := fun x hx => by
  rcases List.mem_cons.mp hx with z | z
  · rw [z]; exact h
  · exact t x z
theorem look_mem {β : Type} {n : Str} {b : β} : ∀ {l : List (Str × β)}, l.lookup n = some b → (n, b) ∈ l
  | [], z => nomatch z
  | (m, c) :: l, z => by
    by_cases e : (n == m) = true
    · simp only [List.lookup, e] at z
      cases z
      rw [show n = m from eq_of_beq e]; exact List.mem_cons_self
    · have e' : (n == m) = false := by simpa using e
      simp only [List.lookup, e'] at z
      exact List.mem_cons_of_mem _ (look_mem z)
theorem xsub_mk (X : K.In h) (G : h.Ns mainGlobals mg) {tbl : List (Str × Bool)} (a : PySem.W.nsIn K mainGlobals x = some (some (.ref C))) (b : PySem.W.subIn K (.ref C) (.type "BaseException") = some true) (d : PySem.W.hasDictIn K C = true)
    (t : PySem.W.typeIn K (.ref C) = some (.type "type")) (all : ∀ p ∈ tbl, SubRow K mg C p) : XSub K mg x tbl := ⟨C, PySem.W.mg_of X G a, fun n c hl Cn hn => by
  obtain ⟨C', h1, h2⟩ := all _ (look_mem hl)
  rw [show mg n = some (.ref C') from h1] at hn
  cases hn
  exact PySem.W.exm_ref b d t h2⟩
/-- an exception class with a written __init__ of its own -/
structure XIAt (K : Fr) (mg : Str → Option Value) (x q : Str) (st : Stmt) (gs : List Str) : Prop where
  ex : ∃ C fI fd, mg x = some (.ref C) ∧ OexC K C ∧ PySem.W.findIn K (.ref C) "__init__" = some (some (.ref fI)) ∧ PySem.W.typeIn K (.ref fI) = some (.type "function") ∧ Fun K "__init__" q st fI fd ∧ ∀ g ∈ gs, PySem.W.findIn K (.ref C) g = some none
theorem xiAt_mk (X : K.In h) (G : h.Ns mainGlobals mg) {q : Str} {st : Stmt} {gs : List Str} {f : Addr} {nm qn : Str} {N : Addr} {bs bm : List Value} {sn : List Str} {sub : List Value} {ab : Bool} {col : Option Bool} {dd : Option Addr} {k0 k1 k2 k3 k5 : Option Value} {oc : Value} {od an : Option Addr} {osl : Array (Option Value)} {kV doc pm cdv ct : Value}
    (a : PySem.W.nsIn K mainGlobals x = some (some (.ref C))) (l : K.lookup C = some (excClassObj nm qn C N bs bm true sn sub ab col dd k0 k1 k2 k3 k5 "ValueError.__new__")) (v : PySem.HandSPX.refsVE bm = true)
    (sa : PySem.W.findIn K (.ref C) "__setattr__" = some (some (.builtin "object.__setattr__"))) (b : PySem.W.subIn K (.ref C) (.type "BaseException") = some true) (t : PySem.W.typeIn K (.ref C) = some (.type "type")) (k : PySem.W.keepIn K (.ref C) = true)
    (i : PySem.W.findIn K (.ref C) "__init__" = some (some (.ref f))) (ti : PySem.W.typeIn K (.ref f) = some (.type "function"))
    (lf : K.lookup f = some ⟨oc, od, .func (PySem.W.fnOf "__init__" q (defArgs st) (defBody st) (defScope st) .none kV doc pm an cdv ct), osl⟩) (cf : PySem.W.codeIn K cdv q = true) (kf : PySem.W.keepIn K (.ref f) = true)
    (no : ∀ g ∈ gs, PySem.W.findIn K (.ref C) g = some none) : XIAt K mg x q st gs :=
  ⟨C, f, _, PySem.W.mg_of X G a, ⟨⟨nm, qn, N, bs, bm, sn, sub, ab, col, dd, k0, k1, k2, k3, k5, l, v⟩, sa, b, t, k⟩, i, ti, fun_mk lf cf kf, no⟩
/-- a class with a written __init__ -/
theorem clsAt_mk (X : K.In h) (G : h.Ns mainGlobals mg) {q : Str} {st : Stmt} {gs : List Str} {f : Addr} {oc : Value} {od an : Option Addr} {osl : Array (Option Value)} {kV doc pm cdv ct : Value}
    (a : PySem.W.nsIn K mainGlobals x = some (some (.ref C))) (m : PySem.W.makesIn K C = true) (k : PySem.W.keepIn K (.ref C) = true) (pg : PySem.W.plainGet K C Str.empty = true) (hd : PySem.W.hasDictIn K C = true) (po : PySem.W.plainOver K C = true)
    (sa : PySem.W.findIn K (.ref C) "__setattr__" = some (some (.builtin "object.__setattr__"))) (i : PySem.W.findIn K (.ref C) "__init__" = some (some (.ref f))) (fi : PySem.W.isFn K (.ref f) = true)
    (lf : K.lookup f = some ⟨oc, od, .func (PySem.W.fnOf "__init__" q (defArgs st) (defBody st) (defScope st) .none kV doc pm an cdv ct), osl⟩) (cf : PySem.W.codeIn K cdv q = true) (kf : PySem.W.keepIn K (.ref f) = true)
    (no : ∀ g ∈ gs, PySem.W.findIn K (.ref C) g = some none) : ClsAt K mg x q st gs :=
  ⟨C, f, _, PySem.W.mg_of X G a, ⟨m, i, fi, k⟩, ⟨pg, hd, po, sa⟩, no, fun_mk lf cf kf⟩
/-- def __init__(self, f1, f2): self.f1 = f1; self.f2 = f2 -/
theorem xi2_of {q f1 f2 : Str} {st : Stmt} (F : XIAt K mg x q st [f1, f2]) (S : FnScope (["self", f1, f2] : List Str) (["self", f1, f2] : List Str) (defScope st))
    (hb : ∀ (kV doc pm : Value) (an : Option Addr) (cdv ct : Value) (us : List Value), us.length = (["self", f1, f2] : List Str).length → bindArgs (PySem.W.fnOf "__init__" q (defArgs st) (defBody st) (defScope st) .none kV doc pm an cdv ct) ⟨us, []⟩ = pure ((["self", f1, f2] : List Str).zip us))
    (body : ∀ (fI : Addr) (cdv : Value) (A : Around) (outer : List Env) (s : Shared) (H : Hp) (E : XK), PSs (cxOf CX0 P w K mg base (["self", f1, f2] : List Str) q (defScope st) fI cdv A outer s H E).nox (defBody st)
      (fun D σ H => tOst K f1 (tVar 0) (tVar 1) { D with nx := fun σ H => tOst K f2 (tVar 0) (tVar 2) D σ H } σ H)) : XI2 P w K mg base x f1 f2 := by
  obtain ⟨C, fI, fd, hm, T, i, ti, Fn, no⟩ := F.ex
  refine ⟨C, fI, fd, hm, T, i, ti, ?_, Fn.binds hb⟩
  refine Fn.ok S (fun vs H Q E ⟨_, _, _, e, _⟩ => by rw [e] <;> rfl) fun cdv A outer s H vs Q E hr h => ⟨_, body fI cdv A outer s H E, ?_⟩
  obtain ⟨a, v1, v2, rfl, ha, q⟩ := h
  refine ⟨v1, rfl, .ref a, rfl, a, C, rfl, T, no _ (by simp), .inl ⟨ha, fun dx hn hne' => ?_⟩⟩
  refine ⟨v2, rfl, .ref a, rfl, a, C, rfl, T, no _ (by simp), .inr ⟨dx, [(f1, v1)], ?_, ?_, by show 1 ≤ 900; decide, q dx hn hne'⟩⟩
  · rw [upd_same]
  · rw [upd_ne hne', upd_same]
theorem xi1_of {q f1 : Str} {st : Stmt} (F : XIAt K mg x q st [f1]) (S : FnScope (["self", f1] : List Str) (["self", f1] : List Str) (defScope st))
    (hb : ∀ (kV doc pm : Value) (an : Option Addr) (cdv ct : Value) (us : List Value), us.length = (["self", f1] : List Str).length → bindArgs (PySem.W.fnOf "__init__" q (defArgs st) (defBody st) (defScope st) .none kV doc pm an cdv ct) ⟨us, []⟩ = pure ((["self", f1] : List Str).zip us))
    (body : ∀ (fI : Addr) (cdv : Value) (A : Around) (outer : List Env) (s : Shared) (H : Hp) (E : XK), PSs (cxOf CX0 P w K mg base (["self", f1] : List Str) q (defScope st) fI cdv A outer s H E).nox (defBody st) (tOst K f1 (tVar 0) (tVar 1))) : XI1 P w K mg base x f1 := by
  obtain ⟨C, fI, fd, hm, T, i, ti, Fn, no⟩ := F.ex
  refine ⟨C, fI, fd, hm, T, i, ti, ?_, Fn.binds hb⟩
  refine Fn.ok S (fun vs H Q E ⟨_, _, e, _⟩ => by rw [e] <;> rfl) fun cdv A outer s H vs Q E hr h => ⟨_, body fI cdv A outer s H E, ?_⟩
  obtain ⟨a, v1, rfl, ha, q⟩ := h
  exact ⟨v1, rfl, .ref a, rfl, a, C, rfl, T, no _ (by simp), .inl ⟨ha, fun dx hn hne' => q dx hn hne'⟩⟩
end
/-! ### the ring -/
abbrev Rg : Type := List Int × Int × Int
def toRing (x : Rg) : List (Str × XF) := [("poly", .row x.1), ("degree", .int x.2.1), ("measure", .int x.2.2)]
theorem at_poly (x : Rg) : (toRing x).lookup ("poly" : Str) = some (yRow.f x.1) := rfl
theorem at_degree (x : Rg) : (toRing x).lookup ("degree" : Str) = some (yInt.f x.2.1) := rfl
theorem at_measure (x : Rg) : (toRing x).lookup ("measure" : Str) = some (yInt.f x.2.2) := rfl
theorem nn_obj {ρ : Type} {toF : ρ → List (Str × XF)} {K : Fr} {H : Hp} {x : ρ} {v : L2.V} (h : (tObj toF).rep K H x v) : v ≠ .non := by obtain ⟨p, _, _, _, e, _⟩ := h; rw [e]; exact fun z => nomatch z
end T

set_option maxRecDepth 100000
set_option maxHeartbeats 4000000
namespace T
open PySem PySem.Spec PyProof.Rows L2
/-! ### sorted, of rows of one length -/
theorem code_inj {B : Int} : ∀ {a b : List Int}, a.length = b.length → TS.Bd B a → TS.Bd B b → TS.code B a = TS.code B b → a = b
  | [], [], _, _, _, _ => rfl
  | [], _ :: _, h, _, _, _ => nomatch h
  | _ :: _, [], h, _, _, _ => nomatch h
  | d :: r, e :: q, hl, ha, hb, h => by
    have hl' : r.length = q.length := by simpa using hl
    rcases Int.lt_trichotomy d e with z | z | z
    · have := TS.code_lt hl' ha.tail hb.tail z; omega
    · subst z
      have h' : TS.code B r = TS.code B q := by
        have e1 : ¬ TS.code B r < TS.code B q := fun k => by have := (TS.code_same (d := d) hl').mpr k; omega
        have e2 : ¬ TS.code B q < TS.code B r := fun k => by have := (TS.code_same (d := d) hl'.symm).mpr k; omega
        omega
      rw [code_inj hl' ha.tail hb.tail h']
    · have := TS.code_lt hl'.symm hb.tail ha.tail z; omega
def sortOk (xs : List (List Int)) : Bool := decide (xs.length < 64) && decide (0 < (xs.headD [0]).length) && xs.all fun x => decide (x.length = (xs.headD [0]).length) && x.all fun m => decide (0 ≤ m) && decide (m < 1000)
def sortT (xs : List (List Int)) : List (List Int) := xs.mergeSort fun a b => decide (TS.code 1000 a ≤ TS.code 1000 b)
def psortT (xs : List (List Int)) : M (List (List Int)) := grd (sortOk xs = true) (ok (sortT xs))
theorem Paired.perm {α : Type} {F : α → L2.V → Prop} {ys vs : List L2.V} (h : ys.Perm vs) : ∀ {xs : List α}, Paired F xs vs → ∃ zs, zs.Perm xs ∧ Paired F zs ys := by
  induction h with
  | nil => exact fun h => by cases h; exact ⟨[], List.Perm.refl _, .nil⟩
  | cons v _ ih =>
    intro xs h
    cases h with
    | cons r t =>
      obtain ⟨zs, p, q⟩ := ih t
      exact ⟨_ :: zs, p.cons _, .cons r q⟩
  | swap v u l =>
    intro xs h
    cases h with
    | cons r t =>
      cases t with
      | cons r2 t2 => exact ⟨_, List.Perm.swap .., .cons r2 (.cons r t2)⟩
  | trans _ _ ih1 ih2 =>
    intro xs h
    obtain ⟨zs, p, q⟩ := ih2 h
    obtain ⟨ws, p2, q2⟩ := ih1 q
    exact ⟨ws, p2.trans p, q2⟩
theorem Paired.pw {α : Type} {F : α → L2.V → Prop} {R : L2.V → L2.V → Prop} {S : α → α → Prop} (hRS : ∀ x y a b, F x a → F y b → R a b → S x y) : ∀ {xs : List α} {vs : List L2.V}, Paired F xs vs → vs.Pairwise R → xs.Pairwise S
  | _, _, .nil, _ => .nil
  | _, _, .cons r t, h => by
    obtain ⟨h1, h2⟩ := List.pairwise_cons.mp h
    refine List.pairwise_cons.mpr ⟨fun y hy => ?_, Paired.pw hRS t h2⟩
    obtain ⟨i, hi⟩ := List.getElem?_of_mem hy
    obtain ⟨v, hv, hF⟩ := Paired.get t hi
    exact hRS _ _ _ _ r hF (h1 v (List.mem_of_getElem? hv))
theorem Paired.mem {α : Type} {F : α → L2.V → Prop} {v : L2.V} : ∀ {xs : List α} {vs : List L2.V}, Paired F xs vs → v ∈ vs → ∃ x ∈ xs, F x v
  | _, _, .nil, h => nomatch h
  | _, _, .cons r t, h => by
    rcases List.mem_cons.mp h with z | z
    · subst z; exact ⟨_, List.mem_cons_self, r⟩
    · obtain ⟨x, hx, hF⟩ := Paired.mem t z
      exact ⟨x, List.mem_cons_of_mem _ hx, hF⟩
theorem row_tup {K : Fr} {D H : Hp} {x : List Int} {v : L2.V} (le : Le D H) (h : (tRow tInt).rep K D x v) : TupI K H v x := by
  obtain ⟨p, vs, rfl, h1, h2⟩ := h
  rw [Paired.toInts h2] at h1
  exact ⟨p, rfl, SqT.mono le h1⟩
theorem tupI_fun {K : Fr} {H : Hp} {v : L2.V} {x y : List Int} (hx : TupI K H v x) (hk : ∀ p (a b : List L2.V), SqT K H p a → SqT K H p b → a = b) (hy : TupI K H v y) : x = y := by
  obtain ⟨p, rfl, h1⟩ := hx
  obtain ⟨q, e, h2⟩ := hy
  cases e
  have := hk _ _ _ h1 h2
  exact List.map_inj_right (fun a b z => by cases z; rfl) |>.mp this
section
variable {X : Cx} {G : Ctx} {Γ : Vw} {α β γ δ τ ρ θ C C' : Type} {a b c e it tg : Expr} {pos : Pos} {st : Stmt} {rest : List Stmt} {R : Rp ρ} {Z : θ → Dest ρ}
theorem cr_sortE {X : Cx} {B : Int} : CallR X (.builtin "sorted") (fun vs H Q => ∃ d, 1 ≤ d ∧ rSortU X.K d B vs H Q) := by
  intro pins s σ H vs us Q I r ⟨d, hd, h⟩
  exact cr_sortT hd pins s σ H vs us Q I r h
theorem sortOk_ok {xs : List (List Int)} (h : sortOk xs = true) : xs.length < 64 ∧ ∃ d, 1 ≤ d ∧ ∀ x ∈ xs, x.length = d ∧ TS.Bd 1000 x := by
  unfold sortOk at h
  simp only [Bool.and_eq_true, decide_eq_true_eq, List.all_eq_true] at h
  exact ⟨h.1.1, _, h.1.2, fun x hx => ⟨(h.2 x hx).1, fun m hm => (h.2 x hx).2 m hm⟩⟩
theorem E_sortT {ra : M (List (List Int))} {p : Pos} (hm : X.mg "sorted" = none) (ha : ET X G Γ a (bor (tRow tInt)) ra) (hg : Gl X "sorted" := by rfl) (hs1 : starEach [a] X.env = [(false, eval a X.env)] := by rfl) :
    ET X G Γ (.Call (.Name "sorted" p) [a] [] pos) (own (tRow tInt)) (ra.bind fun x => psortT x) := fun w =>
  E_bi1 (A := bor (tRow tInt)) (R := own (tRow tInt)) (g := psortT) (cr_sortE (B := 1000)) (fun H D a va fa c Q le ⟨_, p, vs, z, h1, h2⟩ hg k => by
    subst z
    obtain ⟨g1, g2⟩ := grd_ok hg
    cases g2
    obtain ⟨h64, d, hd, hall⟩ := sortOk_ok g1
    refine ⟨d, hd, p, vs, rfl, h1, by rw [← h2.length]; exact h64, fun v hv => ?_, fun ys q hp hpw nq => ?_⟩
    · obtain ⟨x, hx, hF⟩ := Paired.mem h2 hv
      exact ⟨x, row_tup le hF, hall x hx⟩
    · obtain ⟨zs, p1, p2⟩ := Paired.perm hp h2
      have hz : zs = sortT a := by
        refine List.Perm.eq_of_pairwise (le := fun a b => TS.code 1000 a ≤ TS.code 1000 b) (fun x y hx hy l1 l2 => ?_) (Paired.pw (fun x y u v hu hv hr => hr x y (row_tup le hu) (row_tup le hv)) p2 hpw) ?_ (p1.trans (List.mergeSort_perm _ _).symm)
        · obtain ⟨x1, x2⟩ := hall x (p1.subset hx)
          obtain ⟨y1, y2⟩ := hall y ((List.mergeSort_perm _ _).subset hy)
          exact code_inj (x1.trans y1.symm) x2 y2 (by omega)
        · have := List.pairwise_mergeSort (le := fun a b => decide (TS.code 1000 a ≤ TS.code 1000 b)) (fun a b c h1 h2 => by simp at *; omega) (fun a b => by simp; omega) a
          exact this.imp (fun h => by simpa using h)
      rw [hz] at p2
      exact own_new le nq p2 k) (fun xs e => grd_nx (fun z => nomatch z)) hm (by decide +kernel) ha hg (by decide) (by decide) hs1 rfl w
end
end T

set_option maxRecDepth 100000
namespace T
open PySem PySem.Spec PyProof.Rows L2
section
variable {X : Cx} {G : Ctx} {Γ : Vw} {pos : Pos}
/-! ### list(range(i, j)) -/
instance (i j : Int) : Decidable (L2.RgOk i j) := by unfold L2.RgOk; exact inferInstance
def plrange (i j : Int) : M (List Int) := grd (L2.RgOk i j) (ok (rangeL i (j - i).toNat))
theorem rgV_pair {K : Fr} {D : Hp} (i j : Int) : Paired ((tInt).rep K D) (rangeL i (j - i).toNat) (rgV i j) := by
  unfold rangeL rgV
  induction List.range (j - i).toNat with
  | nil => exact .nil
  | cons a l ih => exact .cons rfl ih
theorem E_listR2 {ra rb : M Int} {p p2 pos2 : Pos} (hm : X.mg "list" = none) (hm2 : X.mg "range" = none) (ha : ET X G Γ a (dat tInt) ra) (hb : ET X G Γ b (dat tInt) rb) (hc : G.c = true := by rfl) (hg : Gl X "list" := by rfl) (hg2 : Gl X "range" := by rfl)
    (hs : starEach [a, b] X.env = (false, eval a X.env) :: starEach [b] X.env := by rfl) (hs2 : starEach [b] X.env = (false, eval b X.env) :: starEach [] X.env := by rfl) (hpl : (backTo pos2 (starEach [b] X.env)).any (·.1) = false := by rfl)
    (hs3 : starEach [.Call (.Name "range" p2) [a, b] [] pos2] X.env = (false, eval (.Call (.Name "range" p2) [a, b] [] pos2) X.env) :: starEach [] X.env := by rfl) :
    ET X G Γ (.Call (.Name "list" p) [.Call (.Name "range" p2) [a, b] [] pos2] [] pos) (own tInt) (ra.bind fun i => rb.bind fun j => plrange i j) := fun w =>
  (pe_listRg (w.calm hc) hg hm (prg_2 hg2 hm2 (ha w) (hb w) hs hs2 hpl) hs3).weak fun σ H Q ⟨H0, D0, D, os, hr, x, hx, hp⟩ =>
    seqEE hr hx hp fun i H1 D1 fp v _ hx1 e1 r1 f1 hr1 hp1 => seqEE hr1 hx1 hp1 fun j H2 D2 fp2 v2 _ hx2 e2 r2 f2 hr2 hp2 => by
      obtain ⟨g, hf⟩ := grd_some hx2
      cases hf
      exact ⟨i, j, r1.2, r2.2, g, fun q hq => own_new hr2.le hq (rgV_pair i j) hp2⟩
/-! ### is, of two truth values -/
theorem cp_isB (K : Fr) : Cp2 K (fun x y H Q => ∃ a b, x = .bl a ∧ y = .bl b ∧ Q (.bl (decide (a = b))) H) (dat tBool) (dat tBool) fun x y => decide (x = y) := fun H D a b va vb fa fb Q le ⟨_, r1⟩ ⟨_, r2⟩ q => ⟨a, b, r1, r2, q⟩
theorem cp_notB (K : Fr) : Cp2 K (fun x y H Q => ∃ a b, x = .bl a ∧ y = .bl b ∧ Q (.bl (!decide (a = b))) H) (dat tBool) (dat tBool) fun x y => !decide (x = y) := fun H D a b va vb fa fb Q le ⟨_, r1⟩ ⟨_, r2⟩ q => ⟨a, b, r1, r2, q⟩
theorem B_isB {ra rb : M Bool} (ha : ET X G Γ a (dat tBool) ra) (hb : ET X G Γ b (dat tBool) rb) : BT X G Γ (.Compare a [.Is] [b] pos) (ra.bind fun x => rb.bind fun y => ok (decide (x = y))) := B_cmp op_is_bl (cp_isB X.K) (nomark _) ha hb
theorem B_notB {ra rb : M Bool} (ha : ET X G Γ a (dat tBool) ra) (hb : ET X G Γ b (dat tBool) rb) : BT X G Γ (.Compare a [.IsNot] [b] pos) (ra.bind fun x => rb.bind fun y => ok (!decide (x = y))) := B_cmp op_isnot_bl (cp_notB X.K) (nomark _) ha hb
theorem E_isB {ra rb : M Bool} (ha : ET X G Γ a (dat tBool) ra) (hb : ET X G Γ b (dat tBool) rb) : ET X G Γ (.Compare a [.Is] [b] pos) (dat tBool) (ra.bind fun x => rb.bind fun y => ok (decide (x = y))) := E_cmp op_is_bl (cp_isB X.K) (nomark _) ha hb
theorem E_notB {ra rb : M Bool} (ha : ET X G Γ a (dat tBool) ra) (hb : ET X G Γ b (dat tBool) rb) : ET X G Γ (.Compare a [.IsNot] [b] pos) (dat tBool) (ra.bind fun x => rb.bind fun y => ok (!decide (x = y))) := E_cmp op_isnot_bl (cp_notB X.K) (nomark _) ha hb
end
end T

set_option maxRecDepth 100000
namespace T
open PySem PySem.Spec PyProof.Rows L2
/-! ### short lists of places of unlike types, that nobody changes -/
def tLr2 {α β : Type} (A : Dt α) (B : Dt β) : Dt (α × β) := ⟨fun K H x v => ∃ p v1 v2, v = .ref p ∧ H p = some (.lst [v1, v2]) ∧ A.rep K H x.1 v1 ∧ B.rep K H x.2 v2,
  fun e ⟨p, v1, v2, h1, h2, h3, h4⟩ => ⟨p, v1, v2, h1, e _ _ h2, A.mono e h3, B.mono e h4⟩⟩
def tLr3 {α β γ : Type} (A : Dt α) (B : Dt β) (C : Dt γ) : Dt (α × β × γ) := ⟨fun K H x v => ∃ p v1 v2 v3, v = .ref p ∧ H p = some (.lst [v1, v2, v3]) ∧ A.rep K H x.1 v1 ∧ B.rep K H x.2.1 v2 ∧ C.rep K H x.2.2 v3,
  fun e ⟨p, v1, v2, v3, h1, h2, h3, h4, h5⟩ => ⟨p, v1, v2, v3, h1, e _ _ h2, A.mono e h3, B.mono e h4, C.mono e h5⟩⟩
section
variable {X : Cx} {G : Ctx} {Γ : Vw} {pos : Pos} {α β γ : Type}
theorem E_lr2 {A : Dt α} {B : Dt β} {r : M (α × β)} (h : AR X G Γ es (.cons A (.cons B .nil)) (fun t => ok (t.1, t.2.1)) r) : ET X G Γ (.List es pos) (dat (tLr2 A B)) r := fun w =>
  (pe_lst (h w)).weak fun σ H Q ⟨H0, D0, D, os, hr, x, hx, hp⟩ =>
    ⟨H0, D0, D, os, x, fun H1 D1 x => ePost X.K X.mg G H0 D0 σ H1 D1 (dat (tLr2 A B)) Q x, hr, hx, hp, fun _ _ _ _ _ e2 h => h.grow e2, fun e z => by subst z; exact hp, fun t vs H1 D1 hk e1 ht hp1 => by
      cases hk
      obtain ⟨v1, r1, rfl, t1, v2, r2, rfl, t2, e0⟩ := ht
      cases (show r2 = [] from e0)
      refine ⟨(by decide : 2 ≤ sizeLine), fun p np => ?_⟩
      have nd : D1 p = none := e1.dh.free np
      exact hp1 (.ref p) _ _ [] (Ext.laid e1.dh np) ⟨rfl, p, v1, v2, rfl, upd_same, A.mono (Same.upd nd) t1, B.mono (Same.upd nd) t2⟩ .nil⟩
theorem E_lr3 {A : Dt α} {B : Dt β} {C : Dt γ} {r : M (α × β × γ)} (h : AR X G Γ es (.cons A (.cons B (.cons C .nil))) (fun t => ok (t.1, t.2.1, t.2.2.1)) r) : ET X G Γ (.List es pos) (dat (tLr3 A B C)) r := fun w =>
  (pe_lst (h w)).weak fun σ H Q ⟨H0, D0, D, os, hr, x, hx, hp⟩ =>
    ⟨H0, D0, D, os, x, fun H1 D1 x => ePost X.K X.mg G H0 D0 σ H1 D1 (dat (tLr3 A B C)) Q x, hr, hx, hp, fun _ _ _ _ _ e2 h => h.grow e2, fun e z => by subst z; exact hp, fun t vs H1 D1 hk e1 ht hp1 => by
      cases hk
      obtain ⟨v1, r1, rfl, t1, v2, r2, rfl, t2, v3, r3, rfl, t3, e0⟩ := ht
      cases (show r3 = [] from e0)
      refine ⟨(by decide : 3 ≤ sizeLine), fun p np => ?_⟩
      have nd : D1 p = none := e1.dh.free np
      exact hp1 (.ref p) _ _ [] (Ext.laid e1.dh np) ⟨rfl, p, v1, v2, v3, rfl, upd_same, A.mono (Same.upd nd) t1, B.mono (Same.upd nd) t2, C.mono (Same.upd nd) t3⟩ .nil⟩
/-- a tuple, so often -/
def prepT {α : Type} (xs : List α) (k : Int) : M (List α) := grd (0 < xs.length ∧ 2 ≤ k ∧ k ≤ 1000 ∧ xs.length ≤ 1000) (ok (List.replicate k.toNat xs).flatten)
theorem E_repT {A : Dt α} {ra : M (List α)} {rb : M Int} (ha : ET X G Γ a (dat (tRow A)) ra) (hb : ET X G Γ b (dat tInt) rb) : ET X G Γ (.BinOp a .Mult b pos) (dat (tRow A)) (ra.bind fun x => rb.bind fun y => prepT x y) :=
  E_op2 (A := dat (tRow A)) (B := dat tInt) (R := dat (tRow A)) op_repT (fun H D xs k va vb fa fb c Q le ⟨_, p, vs, z1, h1, h2⟩ ⟨_, z2⟩ hg q => by
    obtain ⟨⟨g0, g1, g2, g3⟩, g4⟩ := grd_ok hg
    cases g4
    exact ⟨p, k, vs, z1, z2, SqT.mono le h1, by intro e; rw [h2.length, e] at g0; exact absurd g0 (by decide), g1, g2, by rw [← h2.length]; exact g3, fun r nr => row_new le nr (Paired.rep h2 _) q⟩) (fun _ _ _ => grd_nx (fun z => nomatch z)) ha hb
theorem E_l21 {A : Dt α} {B : Dt β} {ra : M (α × β)} (ha : ET X G Γ a (dat (tLr2 A B)) ra) (hb : ET X G Γ b (dat tInt) (ok 0)) (hp : PlainIx b := by intro _ _; rfl) : ET X G Γ (.Subscript a b pos) (dat A) (ra.bind fun x => ok x.1) :=
  E_ix (A := dat (tLr2 A B)) (R := dat A) (g := fun x (_ : Int) => ok x.1) (B := ⟨fun _ _ _ fp x v => fp = [] ∧ x = 0 ∧ v = .int 0, fun _ _ h => h⟩) ix_list (fun H D xs i va vb fa fb c Q le ⟨_, p, v1, v2, z, h1, h2, h3⟩ ⟨_, _, z2⟩ hg k => by
    cases hg
    exact ⟨p, _, 0, v1, z, z2, .inl (.inl (le _ _ h1)), rfl, k v1 H D [] (Ext.refl le) ⟨rfl, h2⟩ .nil⟩) nxok2 ha (fun w => (hb w).weak fun σ H Q ⟨H0, D0, D, os, hr, x, hx, hp⟩ => ⟨H0, D0, D, os, hr, x, hx, by
      cases hx
      exact fun v H' D' fp e ⟨h1, h2⟩ f => hp v H' D' fp e ⟨h1, rfl, h2⟩ f⟩) hp
theorem E_l22 {A : Dt α} {B : Dt β} {ra : M (α × β)} (ha : ET X G Γ a (dat (tLr2 A B)) ra) (hb : ET X G Γ b (dat tInt) (ok 1)) (hp : PlainIx b := by intro _ _; rfl) : ET X G Γ (.Subscript a b pos) (dat B) (ra.bind fun x => ok x.2) :=
  E_ix (A := dat (tLr2 A B)) (R := dat B) (g := fun x (_ : Int) => ok x.2) (B := ⟨fun _ _ _ fp x v => fp = [] ∧ x = 1 ∧ v = .int 1, fun _ _ h => h⟩) ix_list (fun H D xs i va vb fa fb c Q le ⟨_, p, v1, v2, z, h1, h2, h3⟩ ⟨_, _, z2⟩ hg k => by
    cases hg
    exact ⟨p, _, 1, v2, z, z2, .inl (.inl (le _ _ h1)), rfl, k v2 H D [] (Ext.refl le) ⟨rfl, h3⟩ .nil⟩) nxok2 ha (fun w => (hb w).weak fun σ H Q ⟨H0, D0, D, os, hr, x, hx, hp⟩ => ⟨H0, D0, D, os, hr, x, hx, by
      cases hx
      exact fun v H' D' fp e ⟨h1, h2⟩ f => hp v H' D' fp e ⟨h1, rfl, h2⟩ f⟩) hp
theorem E_l31 {A : Dt α} {B : Dt β} {C : Dt γ} {ra : M (α × β × γ)} (ha : ET X G Γ a (dat (tLr3 A B C)) ra) (hb : ET X G Γ b (dat tInt) (ok 0)) (hp : PlainIx b := by intro _ _; rfl) : ET X G Γ (.Subscript a b pos) (dat A) (ra.bind fun x => ok x.1) :=
  E_ix (A := dat (tLr3 A B C)) (R := dat A) (g := fun x (_ : Int) => ok x.1) (B := ⟨fun _ _ _ fp x v => fp = [] ∧ x = 0 ∧ v = .int 0, fun _ _ h => h⟩) ix_list (fun H D xs i va vb fa fb c Q le ⟨_, p, v1, v2, v3, z, h1, h2, h3, h4⟩ ⟨_, _, z2⟩ hg k => by
    cases hg
    exact ⟨p, _, 0, v1, z, z2, .inl (.inl (le _ _ h1)), rfl, k v1 H D [] (Ext.refl le) ⟨rfl, h2⟩ .nil⟩) nxok2 ha (fun w => (hb w).weak fun σ H Q ⟨H0, D0, D, os, hr, x, hx, hp⟩ => ⟨H0, D0, D, os, hr, x, hx, by
      cases hx
      exact fun v H' D' fp e ⟨h1, h2⟩ f => hp v H' D' fp e ⟨h1, rfl, h2⟩ f⟩) hp
theorem E_l32 {A : Dt α} {B : Dt β} {C : Dt γ} {ra : M (α × β × γ)} (ha : ET X G Γ a (dat (tLr3 A B C)) ra) (hb : ET X G Γ b (dat tInt) (ok 1)) (hp : PlainIx b := by intro _ _; rfl) : ET X G Γ (.Subscript a b pos) (dat B) (ra.bind fun x => ok x.2.1) :=
  E_ix (A := dat (tLr3 A B C)) (R := dat B) (g := fun x (_ : Int) => ok x.2.1) (B := ⟨fun _ _ _ fp x v => fp = [] ∧ x = 1 ∧ v = .int 1, fun _ _ h => h⟩) ix_list (fun H D xs i va vb fa fb c Q le ⟨_, p, v1, v2, v3, z, h1, h2, h3, h4⟩ ⟨_, _, z2⟩ hg k => by
    cases hg
    exact ⟨p, _, 1, v2, z, z2, .inl (.inl (le _ _ h1)), rfl, k v2 H D [] (Ext.refl le) ⟨rfl, h3⟩ .nil⟩) nxok2 ha (fun w => (hb w).weak fun σ H Q ⟨H0, D0, D, os, hr, x, hx, hp⟩ => ⟨H0, D0, D, os, hr, x, hx, by
      cases hx
      exact fun v H' D' fp e ⟨h1, h2⟩ f => hp v H' D' fp e ⟨h1, rfl, h2⟩ f⟩) hp
theorem E_l33 {A : Dt α} {B : Dt β} {C : Dt γ} {ra : M (α × β × γ)} (ha : ET X G Γ a (dat (tLr3 A B C)) ra) (hb : ET X G Γ b (dat tInt) (ok 2)) (hp : PlainIx b := by intro _ _; rfl) : ET X G Γ (.Subscript a b pos) (dat C) (ra.bind fun x => ok x.2.2) :=
  E_ix (A := dat (tLr3 A B C)) (R := dat C) (g := fun x (_ : Int) => ok x.2.2) (B := ⟨fun _ _ _ fp x v => fp = [] ∧ x = 2 ∧ v = .int 2, fun _ _ h => h⟩) ix_list (fun H D xs i va vb fa fb c Q le ⟨_, p, v1, v2, v3, z, h1, h2, h3, h4⟩ ⟨_, _, z2⟩ hg k => by
    cases hg
    exact ⟨p, _, 2, v3, z, z2, .inl (.inl (le _ _ h1)), rfl, k v3 H D [] (Ext.refl le) ⟨rfl, h4⟩ .nil⟩) nxok2 ha (fun w => (hb w).weak fun σ H Q ⟨H0, D0, D, os, hr, x, hx, hp⟩ => ⟨H0, D0, D, os, hr, x, hx, by
      cases hx
      exact fun v H' D' fp e ⟨h1, h2⟩ f => hp v H' D' fp e ⟨h1, rfl, h2⟩ f⟩) hp
end
end T

set_option maxRecDepth 100000
set_option maxHeartbeats 4000000
namespace T
open PySem PySem.Spec PyProof.Rows L2
/-! ### try with clauses, some of which name what they caught -/
/-- one clause: the class, the slot of the name (where there is one), what its suite does -/
structure Cl where
  c : Value
  at_ : Option Nat
  t : Addr → Value → Option Addr → TS
def Cl.ends (q : Cl) (D : Ends) : Ends := match q.at_ with
  | none => D
  | some i => { nx := fun σ H => D.nx (σ.set i none) H, rt := D.rt, bk := fun σ H => D.bk (σ.set i none) H, ct := fun σ H => D.ct (σ.set i none) H }
def Cl.st (q : Cl) (a : Addr) (σ : L2.St) : L2.St := match q.at_ with
  | none => σ
  | some i => σ.set i (some (.ref a))
/-- the clauses' wish, one after the other -/
def wishes (K : Fr) (n : Nat) (W0 : WX) (D : Ends) : List Cl → WX
  | [] => W0
  | q :: r => fun k d σ H => ∃ b, PySem.W.exmOne K k q.c = some b ∧ (b = true → ∀ a, H a = none → σ.length = n → q.t a k d (q.ends D) (q.st a σ) H) ∧ (b = false → wishes K n W0 D r k d σ H)
/-- the name of a clause is a local one, at its slot -/
def ClAt (X : Cx) (nm : Option Str) (q : Cl) : Prop := match nm, q.at_ with
  | none, none => True
  | some n, some i => X.N[i]? = some n ∧ X.env.kindOf n = some .local
  | _, _ => False
inductive Cls' (X : Cx) : List ExceptHandler → List Cl → Prop
  | nil : Cls' X [] []
  | cons {x : Str} {nm : Option Str} {q : Cl} {b0 : Stmt} {bs : List Stmt} {p1 p2 : Pos} {hs : List ExceptHandler} {l : List Cl} (hc : Names X x q.c) (ha : ClAt X nm q)
      (hb : ∀ (a : Addr) (o : Obj) (k : Value) (d : Option Addr) (pn : List (Addr × Obj)), Zc k d o → (∃ vs, o.data = .fields vs) → PSs (X.suite a ((a, o) :: pn)) (b0 :: bs) (q.t a k d)) (r : Cls' X hs l) :
      Cls' X (.ExceptHandler (some (.Name x p1)) nm (b0 :: bs) p2 :: hs) (q :: l)
section
variable {X : Cx} {body : List Stmt} {hd0 : ExceptHandler} {hds : List ExceptHandler} {l : List Cl} {pos : Pos} {tb : WX → TS} {W0 : WX}
theorem ps_clauses (hN : X.N.Nodup) (hst : X.stack = X.env :: X.outer) (hfr : X.env.frame = some X.env.locals) (htk : Takes X W0)
    (hbody : ∀ (W : WX) (pn : List (Addr × Obj)) (xe : Value → Shared → Prop), Takes (X.tr pn xe) W → PassesOwn (model X.prog X.w) X.A X.env xe → PSs (X.tr pn xe) body (tb W))
    (hcl : Cls' X (hd0 :: hds) l) : PS X (.Try body (hd0 :: hds) [] [] pos) (fun D σ H => tb (wishes X.K X.N.length W0 D l) D σ H) := by
  refine ⟨fun pins s0 σ H D Iv hw => ?_⟩
  have okI := Iv.ok
  have hAf : X.A.frames = some (X.env :: X.outer) := by rw [okI.frames, hst]
  refine wpAny_Try_except ?_
  have run := (hbody (wishes X.K X.N.length W0 D l) (X.pn ++ pins) (fun e t1 => wpAny (model X.prog X.w) X.A (noteFrame e X.env) (fun _ t2 => wpAny (model X.prog X.w) X.A (setFlight e none) (fun _ t3 => wpAny (model X.prog X.w) X.A (handleBy e X.env (hd0 :: hds)) (SP X pins D) X.xe t3) X.xe t2) X.xe t1) (fun u z0 caught => ?_) PassesOwn.looking).run [] s0 σ H D (Iv.toTry _) hw
  · refine wpAny_mono run (fun fl z1 hz1 => ?_) (fun e z1 q => q)
    cases fl with
    | next =>
      obtain ⟨τ, G1, I1, q1⟩ := hz1
      exact wpAny_execs_nil ⟨τ, G1, I1.ofTry okI, q1⟩
    | brk =>
      obtain ⟨τ, G1, I1, q1⟩ := hz1
      exact ⟨τ, G1, I1.ofTry okI, q1⟩
    | cont =>
      obtain ⟨τ, G1, I1, q1⟩ := hz1
      exact ⟨τ, G1, I1.ofTry okI, q1⟩
    | ret u =>
      obtain ⟨v, τ, G1, I1, r1, q1⟩ := hz1
      exact ⟨v, τ, G1, I1.ofTry okI, r1, q1⟩
  · -- what was caught
    obtain ⟨a, Bf, zI, pinsI, τ, G1, k, d, rfl, It, nb, up0, sky0, na, os, ag, wi⟩ := caught
    have I1 : Inv X pins τ G1 zI := It.ofTry okI
    have sky1 : Sky Bf (X.env :: X.outer) a (Zc k d) X.env.locals z0.heap := by rw [← hst]; exact sky0
    show wpAny (model X.prog X.w) X.A (noteFrame (.ref a) X.env) (fun _ t2 => _) _ z0
    refine Sky.land Zc.steady hAf hfr sky1 fun g3 f3 u3 => ?_
    have I3 : Inv X pins τ G1 { z0 with heap := g3 } := I1.landed nb f3.1 (up0.trans u3) os ag
    obtain ⟨o3, vs3, ho3, hz3, hd3⟩ := f3.there
    have outF : a ∉ frs (X.env :: X.outer) := fun hm => by
      obtain ⟨_, oo, eo, nf⟩ := f3.2.2.1.mem hm
      rw [ho3] at eo
      cases eo
      exact nf _ hd3
    have outL : a ≠ X.env.locals := fun z => outF (List.mem_filterMap.mpr ⟨X.env, List.mem_cons_self, by rw [hfr, z]⟩)
    have outS : a ∉ X.fs := fun hm => by
      obtain ⟨e, he, q⟩ := List.mem_filterMap.mp hm
      exact outF (List.mem_filterMap.mpr ⟨e, List.mem_cons_of_mem _ he, q⟩)
    have IS := I3.suite ho3 hd3 na outL outS
    have walk : ∀ {hs' : List ExceptHandler} {l' : List Cl}, Cls' X hs' l' → wishes X.K X.N.length W0 D l' k d τ G1 → wpAny (model X.prog X.w) X.A (handleBy (.ref a) X.env hs') (SP X pins D) X.xe { z0 with heap := g3 } := by
      intro hs' l' hk
      induction hk with
      | nil =>
        intro wi
        refine wpAny_handleBy_nil ?_
        obtain ⟨y1, y2, y3, o, vs, T0, oT, tt, he, hz, hdd, hh1, hr⟩ := id f3
        unfold PySem.passOn
        refine wpAny_bind (wpAny_field he hdd hh1 ?_)
        rw [if_neg (by simp : ¬ ((Value.ref T0 == Value.none) = true))]
        have on : wpAny (model X.prog X.w) X.A (setFlight (.ref a) X.env.frame) (fun _ z4 => wpAny (model X.prog X.w) X.A (throw (.ref a) : Sem Flow) (SP X pins D) X.xe z4) X.xe { z0 with heap := g3 } := by
          rw [hfr]
          refine HandSPX.setFlight_upZ f3 fun g4 hg4 u4 => wpAny_throw (htk _ _ ?_)
          refine ⟨a, Bf, zI, pins, τ, G1, k, d, rfl, I1, nb, (up0.trans u3).trans u4, .inr (.inr ?_), na, os, ag, wi⟩
          rw [hst]; exact hg4
        first
          | exact wpAny_bind (wpAny_pure (wpAny_bind on))
          | exact wpAny_bind on
      | @cons x nm q b0 bs p1 p2 hs2 l2 hc ha hb r ih =>
        intro wi
        obtain ⟨b, hb1, yes, no⟩ := wi
        refine wpAny_handleBy_cons (codeAny_handlers_test ?_) (fun z => by cases z)
        have look : PySem.W.Looks (model X.prog X.w) g3 (typeOf (.ref a)) k := fun A' Q' E' t' kp qq => wpAny_typeOf_ref (kp _ _ ho3) (by rw [hz3.1]; exact qq)
        have LM := PySem.W.exm_one (M := model X.prog X.w) (I3.kIn) look hb1
        have ask : ∀ {Q : Value → Shared → Prop} {E : Value → Shared → Prop}, Q q.c { z0 with heap := g3 } → wpAny (model X.prog X.w) (X.A.mark (some (.ref a))) (eval (.Name x p1) X.env) Q E { z0 with heap := g3 } := fun {Q E} hq => by
          obtain ⟨g, db, m1 | ⟨m1, m2, m3⟩⟩ := hc
          · exact ld_glob (X := X.suite a ((a, o3) :: (X.pn ++ pins))) IS g m1 hq db
          · exact ld_blt (X := X.suite a ((a, o3) :: (X.pn ++ pins))) IS g m1 m2 hq m3 db
        refine ask (LM.here ?_)
        cases b with
        | false =>
          show wpAny _ X.A (handleBy (.ref a) X.env hs2) (SP X pins D) _ _
          exact ih (no rfl)
        | true =>
          cases nm with
          | none =>
            have hat : q.at_ = none := by
              cases e : q.at_ with
              | none => rfl
              | some i => unfold ClAt at ha; rw [e] at ha; exact ha.elim
            have wy := yes rfl a na I1.len
            unfold Cl.ends Cl.st at wy
            rw [hat] at wy
            refine codeAny_handlers_suite ?_
            refine HandSPX.lands_againZ f3 fun g4 f4 u4 => ?_
            have I4 : Inv X pins τ G1 { z0 with heap := g4 } := I1.landed nb f4.1 ((up0.trans u3).trans u4) os ag
            obtain ⟨o4, vs4, ho4, hz4, hd4⟩ := f4.there
            refine wpAny_mono ((hb a o4 k d (X.pn ++ pins) hz4 ⟨_, hd4⟩).run [] _ _ G1 _ (I4.suite ho4 hd4 na outL outS) wy) (fun fl z6 hz6 => ?_) (fun _ _ z => False.elim z)
            cases fl with
            | next =>
              obtain ⟨τ6, G6, I6, q6⟩ := hz6
              exact ⟨_, _, I6.unsuite okI, q6⟩
            | brk =>
              obtain ⟨τ6, G6, I6, q6⟩ := hz6
              exact ⟨_, _, I6.unsuite okI, q6⟩
            | cont =>
              obtain ⟨τ6, G6, I6, q6⟩ := hz6
              exact ⟨_, _, I6.unsuite okI, q6⟩
            | ret u =>
              obtain ⟨v6, τ6, G6, I6, r6, q6⟩ := hz6
              exact ⟨v6, _, _, I6.unsuite okI, r6, q6⟩
          | some n =>
            obtain ⟨i, hat, hix, hlo⟩ : ∃ i, q.at_ = some i ∧ X.N[i]? = some n ∧ X.env.kindOf n = some .local := by
              cases e : q.at_ with
              | none => unfold ClAt at ha; rw [e] at ha; exact ha.elim
              | some i => unfold ClAt at ha; rw [e] at ha; exact ⟨i, rfl, ha⟩
            have wy := yes rfl a na I1.len
            unfold Cl.ends Cl.st at wy
            rw [hat] at wy
            have hLoc : Loc X.env.scope n := .inl hlo
            refine codeAny_handlers_suite_as ?_
            refine HandSPX.lands_againZ f3 fun g4 f4 u4 => ?_
            have I4 : Inv X pins τ G1 { z0 with heap := g4 } := I1.landed nb f4.1 ((up0.trans u3).trans u4) os ag
            obtain ⟨o4, vs4, ho4, hz4, hd4⟩ := f4.there
            refine store_ok (X := X.suite a ((a, o4) :: (X.pn ++ pins))) (v := .ref a) (I4.suite ho4 hd4 na outL outS) hN hix hLoc rfl (fun z5 I5 => ?_) (.inr hlo)
            refine wpAny_mono ((hb a o4 k d (X.pn ++ pins) hz4 ⟨_, hd4⟩).run [] z5 _ G1 _ I5 wy) (fun fl z6 hz6 => ?_) (fun _ _ z => False.elim z)
            have gone : ∀ {τ6 : L2.St} {G6 : Hp} {Q : Shared → Prop}, Inv (X.suite a ((a, o4) :: (X.pn ++ pins))) [] τ6 G6 z6 → (∀ z7, Inv X pins (τ6.set i none) G6 z7 → Q z7) → wpAny (model X.prog X.w) X.A (do bindName X.env n .none; unbindBehindTheSuite X.env n p2) (fun _ z7 => Q z7) X.xe z6 := fun {τ6 G6 Q} I6 hq => gone_ok (I6.unsuite okI) hN hix hlo hq
            cases fl with
            | next =>
              obtain ⟨τ6, G6, I6, q6⟩ := hz6
              exact gone I6 fun z7 I7 => ⟨_, _, I7, q6⟩
            | brk =>
              obtain ⟨τ6, G6, I6, q6⟩ := hz6
              exact gone I6 fun z7 I7 => ⟨_, _, I7, q6⟩
            | cont =>
              obtain ⟨τ6, G6, I6, q6⟩ := hz6
              exact gone I6 fun z7 I7 => ⟨_, _, I7, q6⟩
            | ret u =>
              obtain ⟨v6, τ6, G6, I6, r6, q6⟩ := hz6
              exact gone I6 fun z7 I7 => ⟨v6, _, _, I7, r6, q6⟩
    exact walk hcl wi
end

/-! ### what a clause caught, as a thing of the view -/
theorem XRep.mono {K : Fr} {mg : Str → Option Value} {D D' : Hp} {e : Ex} {c : Value} {d : Option Addr} (le : Le D D') (h : XRep K mg D e c d) : XRep K mg D' e c d := by
  obtain ⟨C, h1, h2, h3⟩ := h
  refine ⟨C, h1, h2, ?_⟩
  cases hf : e.fs with
  | nil => rw [hf] at h3; exact h3
  | cons f fs =>
    rw [hf] at h3
    obtain ⟨dx, vs, q1, q2, q3⟩ := h3
    refine ⟨dx, vs, q1, le _ _ q2, ?_⟩
    have go : ∀ {xs : List (Str × XF)} {ys : List (Str × L2.V)}, Paired (fun (p : Str × XF) (q : Str × L2.V) => p.1 = q.1 ∧ XFrep K D p.2 q.2) xs ys → Paired (fun (p : Str × XF) (q : Str × L2.V) => p.1 = q.1 ∧ XFrep K D' p.2 q.2) xs ys := by
      intro xs ys hp
      induction hp with
      | nil => exact .nil
      | cons r _ ih =>
        exact .cons ⟨r.1, XFrep.mono le r.2⟩ ih
    exact go q3
def exD (mg : Str → Option Value) (a : Addr) (c : Value) (d : Option Addr) : Dt Ex := ⟨fun K D e v => v = .ref a ∧ XRep K mg D e c d, fun le h => ⟨h.1, h.2.mono le⟩⟩
def goH {θ : Type} : List (List (Str × Bool) × (Ex → M θ)) → Ex → M θ
  | [], e => exc e
  | (tbl, rs) :: cs, e => match tbl.lookup e.cls with
    | some true => noX (rs e)
    | some false => goH cs e
    | none => none
def tryH {θ : Type} (cs : List (List (Str × Bool) × (Ex → M θ))) (rb : M θ) : M θ := match rb with
  | none => none
  | some (.ok a) => ok a
  | some (.ex e) => goH cs e
theorem tryH_ok {θ : Type} (cs : List (List (Str × Bool) × (Ex → M θ))) (a : θ) : tryH cs (ok a) = ok a := rfl
theorem tryH_exc {θ : Type} (cs : List (List (Str × Bool) × (Ex → M θ))) (e : Ex) : tryH cs (exc e : M θ) = goH cs e := rfl
/-- no entry of a slot -/
def FreeAt {ρ : Type} (i : Nat) : Dest ρ → Prop
  | .nx Γ => rmv i Γ = Γ
  | .bk Γ => rmv i Γ = Γ
  | .ct Γ => rmv i Γ = Γ
  | .rt _ => True
abbrev noW : WX := fun _ _ _ _ => False
section
variable {X : Cx} {G : Ctx} {Γ : Vw} {pos : Pos} {θ ρ : Type} {R : Rp ρ} {Z : θ → Dest ρ}
theorem dPost.drop {K : Fr} {H0 D0 : Hp} {D : Ends} {i : Nat} {z : Dest ρ} (hz : FreeAt i z) (h : dPost K H0 D0 R D z) :
    dPost K H0 D0 R { nx := fun σ H => D.nx (σ.set i none) H, rt := D.rt, bk := fun σ H => D.bk (σ.set i none) H, ct := fun σ H => D.ct (σ.set i none) H } z := by
  have go : ∀ {Γ : Vw} {σ : L2.St} {H' D' : Hp} {os : List Addr}, rmv i Γ = Γ → Rel K H0 D0 Γ σ H' D' os → Rel K H0 D0 Γ (σ.set i none) H' D' os := fun {Γ σ H' D' os} e r => ⟨r.ext, r.own, r.nd, by
    have := r.hold
    rw [← e] at this ⊢
    exact this.set⟩
  cases z with
  | nx Γ => exact fun σ' H' D' os' r => h _ H' D' os' (go hz r)
  | bk Γ => exact fun σ' H' D' os' r => h _ H' D' os' (go hz r)
  | ct Γ => exact fun σ' H' D' os' r => h _ H' D' os' (go hz r)
  | rt a => exact h
/-- the clauses, each with its table and what its suite tells -/
inductive HdT (X : Cx) (k : Nat) (V : Vw) (R : Rp ρ) (Z : θ → Dest ρ) : List ExceptHandler → List (List (Str × Bool) × (Ex → M θ)) → List Cl → Prop
  | nil : HdT X k V R Z [] [] []
  | plain {x : Str} {tbl : List (Str × Bool)} {rs : Ex → M θ} {b0 : Stmt} {bs : List Stmt} {p1 p2 : Pos} {hs cs l} (F : XSub X.K X.mg x tbl) (hg : Gl X x) (hd : (x == ("__debug__" : Str)) = false)
      (hb : ∀ (e : Ex) (a : Addr) (pn : List (Addr × Obj)), JB (X.suite a pn) ⟨noW, [], k, false⟩ V (b0 :: bs) R Z (rs e)) (r : HdT X k V R Z hs cs l) :
      HdT X k V R Z (.ExceptHandler (some (.Name x p1)) none (b0 :: bs) p2 :: hs) ((tbl, rs) :: cs) (⟨(X.mg x).getD .none, none, fun _ _ _ E σ H => ∃ e, tJ X.K X.mg ⟨noW, [], k, false⟩ V R Z (rs e) E σ H⟩ :: l)
  | named (i : Nat) {x n : Str} {tbl : List (Str × Bool)} {rs : Ex → M θ} {b0 : Stmt} {bs : List Stmt} {p1 p2 : Pos} {hs cs l} (F : XSub X.K X.mg x tbl) (hg : Gl X x) (hd : (x == ("__debug__" : Str)) = false)
      (hi : X.N[i]? = some n) (hl : X.env.kindOf n = some .local) (hz : ∀ t, FreeAt i (Z t))
      (hb : ∀ (e : Ex) (a : Addr) (o : Obj) (c : Value) (d : Option Addr) (pn : List (Addr × Obj)), Zc c d o → (∃ vs, o.data = .fields vs) → JB (X.suite a ((a, o) :: pn)) ⟨noW, [], k, false⟩ (put (eD i (exD X.mg a c d) e) V) (b0 :: bs) R Z (rs e)) (r : HdT X k V R Z hs cs l) :
      HdT X k V R Z (.ExceptHandler (some (.Name x p1)) (some n) (b0 :: bs) p2 :: hs) ((tbl, rs) :: cs) (⟨(X.mg x).getD .none, some i, fun a c d E σ H => ∃ e, tJ X.K X.mg ⟨noW, [], k, false⟩ (put (eD i (exD X.mg a c d) e) V) R Z (rs e) E σ H⟩ :: l)
theorem HdT.cls {k : Nat} {V : Vw} {hs cs l} (h : HdT X k V R Z hs cs l) (w : Wf X G) : Cls' X hs l := by
  have wS : ∀ (a : Addr) (pn : List (Addr × Obj)), Wf (X.suite a pn) ⟨noW, [], k, false⟩ := fun a pn => ⟨takes0, w.nd, (fun z => nomatch z), (fun z => nomatch z), w.hu, PassesOwn.never⟩
  induction h with
  | nil => exact .nil
  | plain F hg hd hb r ih =>
    obtain ⟨C, hm, _⟩ := F.ex
    refine .cons ⟨hg, hd, .inl (by rw [hm]; rfl)⟩ trivial (fun a o c d pn _ _ => ?_) ih
    exact ⟨fun pins s σ H E I ⟨e, he⟩ => (hb e a _ (wS a _)).run pins s σ H E I he⟩
  | named i F hg hd hi hl hz hb r ih =>
    obtain ⟨C, hm, _⟩ := F.ex
    refine .cons ⟨hg, hd, .inl (by rw [hm]; rfl)⟩ ⟨hi, hl⟩ (fun a o c d pn h1 h2 => ?_) ih
    exact ⟨fun pins s σ H E I ⟨e, he⟩ => (hb e a o c d pn h1 h2 (wS a _)).run pins s σ H E I he⟩
theorem HdT.wish {k : Nat} {V : Vw} {hs cs l} (h : HdT X k V R Z hs cs l) {iv : List Nat} (hv : pick iv V = G.Vx) {E : Ends} {H0 D0 : Hp} {e : Ex} {y : Rs θ} (hy : goH cs e = some y) (hp : jPost X.K X.mg G H0 D0 R Z E y) {c : Value} {d : Option Addr} {σ : L2.St} {H D : Hp} {os : List Addr}
    (hr : Rel X.K H0 D0 V σ H D os) (hx : XRep X.K X.mg D e c d) : wishes X.K X.N.length G.W E l c d σ H := by
  have hx' := hx
  obtain ⟨Cn, hn, rfl, _⟩ := hx'
  induction h with
  | nil =>
    cases hy
    obtain ⟨os2, q2⟩ := hr.pick iv
    rw [hv] at q2
    exact hp _ d σ H D os2 q2 hx
  | @plain x tbl rs b0 bs p1 p2 hs cs l F hg hd hb r ih =>
    obtain ⟨C, hm, hsub⟩ := F.ex
    have hy' : (match tbl.lookup e.cls with | some true => noX (rs e) | some false => goH cs e | none => none) = some y := hy
    cases hl : tbl.lookup e.cls with
    | none => rw [hl] at hy'; cases hy'
    | some b =>
      rw [hl] at hy'
      refine ⟨b, by rw [hm]; exact hsub _ _ hl _ hn, fun hb' a _ _ => ?_, fun hb' => ?_⟩
      · subst hb'
        obtain ⟨t, ht, rfl⟩ := noX_some hy'
        exact ⟨e, H0, D0, D, os, hr, _, ht, hp⟩
      · subst hb'
        exact ih hy'
  | @named i x n tbl rs b0 bs p1 p2 hs cs l F hg hd hi hl' hz hb r ih =>
    obtain ⟨C, hm, hsub⟩ := F.ex
    have hy' : (match tbl.lookup e.cls with | some true => noX (rs e) | some false => goH cs e | none => none) = some y := hy
    cases hl : tbl.lookup e.cls with
    | none => rw [hl] at hy'; cases hy'
    | some b =>
      rw [hl] at hy'
      refine ⟨b, by rw [hm]; exact hsub _ _ hl _ hn, fun hb' a _ hlen => ?_, fun hb' => ?_⟩
      · subst hb'
        obtain ⟨t, ht, rfl⟩ := noX_some hy'
        have hil : i < σ.length := by rw [hlen]; exact (List.getElem?_eq_some_iff.mp hi).1
        obtain ⟨os2, q2⟩ := hr.put (R := dat (exD X.mg a (.ref Cn) d)) (st := dat_st _) (a := e) (v := .ref a) (fp := []) (Hb := H) hil hr.ext.h (fun p hp => (hr.own p hp).2.2) ⟨rfl, rfl, hx⟩ .nil
        exact ⟨e, H0, D0, D, os2, q2, _, ht, (hp.ok rfl).drop (hz t)⟩
      · subst hb'
        exact ih hy'
theorem S_tryH {body : List Stmt} {hd0 : ExceptHandler} {hds : List ExceptHandler} {cs : List (List (Str × Bool) × (Ex → M θ))} {l : List Cl} {rb : M θ} (is iv : List Nat)
    (hb : ∀ (W : WX) (pn : List (Addr × Obj)) (xe : Value → Shared → Prop), JB (X.tr pn xe) ⟨W, pick is Γ, G.k, G.c⟩ Γ body R Z rb)
    (hh : HdT X G.k (pick is Γ) R Z (hd0 :: hds) cs l)
    (hv : pick iv (pick is Γ) = G.Vx := by rfl) (hst : X.stack = X.env :: X.outer := by rfl) (hf : X.env.frame = some X.env.locals := by rfl) :
    JS X G Γ (.Try body (hd0 :: hds) [] [] pos) R Z (tryH cs rb) := fun w => by
  refine (ps_clauses (tb := fun W => tJ X.K X.mg ⟨W, pick is Γ, G.k, G.c⟩ Γ R Z rb) w.nd hst hf w.tk (fun W pn xe tk po => hb W pn xe ⟨tk, w.nd, w.room, w.calm, w.hu, po⟩) (hh.cls w)).weak fun E σ H ⟨H0, D0, D, os, hr, y, hx, hp⟩ => ?_
  cases rb with
  | none => cases hx
  | some rb =>
    cases rb with
    | ok t =>
      cases hx
      exact ⟨H0, D0, D, os, hr, _, rfl, hp⟩
    | ex e => exact ⟨H0, D0, D, os, hr, _, rfl, fun c d σ' H' D' os' r q => hh.wish hv hx hp r q⟩
end
end T

set_option maxRecDepth 100000
set_option maxHeartbeats 4000000
namespace T
open PySem PySem.Spec PyProof.Rows L2
/-! ### isinstance of what a clause caught -/
structure XIsi (K : Fr) (mg : Str → Option Value) (x : Str) (tbl : List (Str × Bool)) : Prop where
  ex : ∃ cv : Value, ((∃ C, mg x = some (.ref C) ∧ cv = .ref C) ∨ (mg x = none ∧ x ≠ "__name__" ∧ ∃ T, bootBuiltins x = some (.type T) ∧ cv = .type T)) ∧ ∀ n b, tbl.lookup n = some b → ∀ Cn, mg n = some (.ref Cn) → ExcC K Cn ∧ PySem.W.kitOne K (.ref Cn) cv = some b
def exIs (tbl : List (Str × Bool)) (e : Ex) : M Bool := match e.fs with
  | [] => (match tbl.lookup e.cls with
    | some b => ok b
    | none => none)
  | _ :: _ => none
section
variable {X : Cx} {G : Ctx} {Γ : Vw} {pos : Pos}
theorem E_isiX (i : Nat) {a : Addr} {o : Obj} {c : Value} {d : Option Addr} {pn : List (Addr × Obj)} {x y : Str} {e : Ex} {tbl : List (Str × Bool)} {p p1 p2 : Pos} (F : XIsi X.K X.mg x tbl) (hm : X.mg "isinstance" = none) (hz : Zc c d o) (hf : ∃ vs, o.data = .fields vs)
    (hfind : find i Γ = some (eD i (exD X.mg a c d) e) := by rfl) (hN : X.N[i]? = some y := by rfl) (hv : Vis X.env.scope y := by first | exact Or.inl rfl | exact Or.inr (Or.inl rfl) | exact Or.inr (Or.inr rfl))
    (hd : (y == ("__debug__" : Str)) = false := by decide) (hcd : (y == ("__classdict__" : Str)) = false := by decide) (hg : Gl X "isinstance" := by rfl) (hgx : Gl X x := by rfl) (hdx : (x == ("__debug__" : Str)) = false := by decide)
    (hs : starEach [.Name y p1, .Name x p2] X.env = (false, eval (.Name y p1) X.env) :: starEach [.Name x p2] X.env := by rfl) (hs2 : starEach [.Name x p2] X.env = (false, eval (.Name x p2) X.env) :: starEach [] X.env := by rfl) (hpl : (backTo pos (starEach [.Name x p2] X.env)).any (·.1) = false := by rfl) :
    ET (X.suite a ((a, o) :: pn)) G Γ (.Call (.Name "isinstance" p) [.Name y p1, .Name x p2] [] pos) (dat tBool) (exIs tbl e) := fun w =>
  ⟨fun pins s σ H Q I ⟨H0, D0, D, os, hr, r, hx, hp⟩ => by
    obtain ⟨fp, os', v, q1, ⟨q2, q3, q4⟩, _, _, _⟩ := hr.hold.find hfind hr.nd
    unfold exIs at hx
    cases hfs : e.fs with
    | cons f fs => rw [hfs] at hx; cases hx
    | nil =>
      rw [hfs] at hx
      cases hl : tbl.lookup e.cls with
      | none => rw [hl] at hx; cases hx
      | some b =>
        rw [hl] at hx
        cases hx
        obtain ⟨Cn, hn, rfl, hdn⟩ := q4
        rw [hfs] at hdn
        have hdn : d = none := hdn
        subst hdn
        cases q3
        obtain ⟨cv, hc, hall⟩ := F.ex
        obtain ⟨eC, ek⟩ := hall _ _ hl _ hn
        rcases hc with ⟨C, hmx, rfl⟩ | ⟨hmx, hne, T0, hb, rfl⟩
        · exact (pe_callB (X := X.suite a ((a, o) :: pn)) (call_isE eC hz hf) hg hm (by rfl) (pa_cons (pe_var hN hv hd hcd) (pa_cons (pe_glob (v := .ref C) hgx hmx rfl hdx) pa_nil hs2) hs) (by decide) (by decide) hs hpl).run pins s σ H Q I
            ⟨.ref a, q1, .ref C, .ref C, b, rfl, fun u hu => hu, ek, hp (.bl b) H D [] (Ext.refl hr.le) ⟨rfl, rfl⟩ .nil⟩
        · exact (pe_callB (X := X.suite a ((a, o) :: pn)) (call_isE eC hz hf) hg hm (by rfl) (pa_cons (pe_var hN hv hd hcd) (pa_cons (pe_bltn (v := .ty T0) hgx hmx hb rfl hne hdx) pa_nil hs2) hs) (by decide) (by decide) hs hpl).run pins s σ H Q I
            ⟨.ref a, q1, .ty T0, .type T0, b, rfl, fun u hu => hu, ek, hp (.bl b) H D [] (Ext.refl hr.le) ⟨rfl, rfl⟩ .nil⟩⟩
end
/-! ### what the written part says of them -/
section
variable {K : Fr} {mg : Str → Option Value} {h : Heap} {x n : Str} {C Cn : Addr} {cv : Value} {b : Bool}
def IsiRow (K : Fr) (mg : Str → Option Value) (cv : Value) (p : Str × Bool) : Prop := ∃ Cn, mg p.1 = some (.ref Cn) ∧ ExcC K Cn ∧ PySem.W.kitOne K (.ref Cn) cv = some p.2
theorem isi_row (X : K.In h) (G : h.Ns mainGlobals mg) (a : PySem.W.nsIn K mainGlobals n = some (some (.ref Cn))) (e : ExcC K Cn) (s : PySem.W.kitOne K (.ref Cn) cv = some b) : IsiRow K mg cv (n, b) := ⟨Cn, PySem.W.mg_of X G a, e, s⟩
theorem isi_all {tbl : List (Str × Bool)} (all : ∀ p ∈ tbl, IsiRow K mg cv p) : ∀ n b, tbl.lookup n = some b → ∀ Cn, mg n = some (.ref Cn) → ExcC K Cn ∧ PySem.W.kitOne K (.ref Cn) cv = some b := fun n b hl Cn hn => by
  obtain ⟨C', h1, h2, h3⟩ := all _ (look_mem hl)
  rw [show mg n = some (.ref C') from h1] at hn
  cases hn
  exact ⟨h2, h3⟩
theorem xisi_own (X : K.In h) (G : h.Ns mainGlobals mg) {tbl : List (Str × Bool)} (a : PySem.W.nsIn K mainGlobals x = some (some (.ref C))) (all : ∀ p ∈ tbl, IsiRow K mg (.ref C) p) : XIsi K mg x tbl := ⟨.ref C, .inl ⟨C, PySem.W.mg_of X G a, rfl⟩, isi_all all⟩
theorem xisi_blt {T0 : String} {tbl : List (Str × Bool)} (hm : mg x = none) (hne : x ≠ "__name__") (hb : bootBuiltins x = some (.type T0)) (all : ∀ p ∈ tbl, IsiRow K mg (.type T0) p) : XIsi K mg x tbl := ⟨.type T0, .inr ⟨hm, hne, T0, hb, rfl⟩, isi_all all⟩
end
end T

set_option maxRecDepth 100000
set_option maxHeartbeats 4000000
namespace T
open PySem PySem.Spec PyProof.Rows L2
/-! ### max of a list of whole numbers -/
def maxL : List Int → Int
  | [] => 0
  | x :: xs => xs.foldl max x
theorem maxL_mem : ∀ (xs : List Int) (x : Int), (xs.foldl max x = x ∨ xs.foldl max x ∈ xs) ∧ x ≤ xs.foldl max x ∧ ∀ y ∈ xs, y ≤ xs.foldl max x
  | [], x => ⟨.inl rfl, Int.le_refl _, fun y h => nomatch h⟩
  | z :: xs, x => by
    obtain ⟨h1, h2, h3⟩ := maxL_mem xs (max x z)
    rw [List.foldl_cons]
    refine ⟨?_, by omega, fun y hy => ?_⟩
    · rcases h1 with h | h
      · by_cases hm : x ≤ z
        · right; rw [h, Int.max_eq_right hm]; exact List.mem_cons_self
        · left; rw [h, Int.max_eq_left (by omega)]
      · right; exact List.mem_cons_of_mem _ h
    · rcases List.mem_cons.mp hy with rfl | h
      · omega
      · exact h3 y h
theorem maxL_spec {ns : List Int} (h : ns ≠ []) : maxL ns ∈ ns ∧ ∀ y ∈ ns, y ≤ maxL ns := by
  match ns, h with
  | x :: xs, _ =>
    obtain ⟨h1, h2, h3⟩ := maxL_mem xs x
    refine ⟨?_, fun y hy => ?_⟩
    · rcases h1 with h | h
      · show xs.foldl max x ∈ _; rw [h]; exact List.mem_cons_self
      · exact List.mem_cons_of_mem _ h
    · rcases List.mem_cons.mp hy with rfl | h
      · exact h2
      · exact h3 y h
theorem argBest_max {ns : List Int} {bt : Nat → Nat → Bool} (hb : ∀ i j, i < ns.length → j < ns.length → bt i j = decide (ns.getD j 0 < ns.getD i 0)) : ∀ k, k < ns.length → argBest bt k ≤ k ∧ ∀ i, i ≤ k → ns.getD i 0 ≤ ns.getD (argBest bt k) 0
  | 0, _ => ⟨Nat.le_refl _, fun i hi => by rw [show i = 0 by omega]; exact Int.le_refl _⟩
  | k + 1, hk => by
    obtain ⟨h1, h2⟩ := argBest_max hb k (by omega)
    have e : argBest bt (k + 1) = if bt (k + 1) (argBest bt k) then k + 1 else argBest bt k := rfl
    rw [e, hb _ _ hk (by omega)]
    by_cases c : ns.getD (argBest bt k) 0 < ns.getD (k + 1) 0
    · rw [decide_eq_true c, if_pos rfl]
      refine ⟨Nat.le_refl _, fun i hi => ?_⟩
      by_cases e2 : i = k + 1
      · rw [e2]; exact Int.le_refl _
      · have := h2 i (by omega); omega
    · rw [decide_eq_false c, if_neg (by decide)]
      refine ⟨by omega, fun i hi => ?_⟩
      by_cases e2 : i = k + 1
      · rw [e2]; omega
      · exact h2 i (by omega)
theorem call_maxI {X : Cx} (hc : X.calm = true) : CallR X (.builtin "max") (fun vs H Q => ∃ (p : Addr) (ns : List Int), vs = [.ref p] ∧ SqL X.K H p (ns.map V.int) ∧ ns ≠ [] ∧ Q (.int (maxL ns)) H) := by
  intro pins s σ H vs us Q I r h
  obtain ⟨p, ns, rfl, hs, hne, q⟩ := h
  obtain ⟨its, rv, hl, _⟩ := I.list hs
  rw [Vals.ref1 r]
  have hlen : its.length = ns.length := by rw [← rv.length, List.length_map]
  have hget : ∀ i, i < ns.length → ∃ t, its[i]? = some (.int (ns.getD i 0) t) := fun i hi => by
    have e : (ns.map V.int)[i]? = some (V.int (ns.getD i 0)) := by
      rw [List.getElem?_map, List.getD_eq_getElem?_getD, List.getElem?_eq_getElem hi]
      rfl
    obtain ⟨u, e1, t, e2⟩ := rv.get e
    exact ⟨t, by rw [e1, e2]⟩
  have hpos : 0 < ns.length := List.length_pos_iff.mpr hne
  refine call_max_walk (iter_anyList hl.isList fun s₂ e st hfp hlI => ?_)
  subst e
  refine ⟨_, _, _, _, _, _, _, rfl, Walks.list (A := X.A.in1) (I.ok.hd hc) _ p hlI its.toArray, st, hfp, by simp; omega, Flt.cmpOf_gt its.toArray (fun v hv => ?_), fun v h' tk hP hk => ?_⟩
  · obtain ⟨i, hi⟩ := List.getElem?_of_mem (by simpa using hv : v ∈ its)
    have hil := (List.getElem?_eq_some_iff.mp hi).1
    obtain ⟨t, et⟩ := hget i (by omega)
    rw [et] at hi
    cases hi
    exact .int _ _
  · have hb : ∀ i j, i < ns.length → j < ns.length → (fun i j => Flt.ltV (its.toArray.getD j .none) (its.toArray.getD i .none)) i j = decide (ns.getD j 0 < ns.getD i 0) := fun i j hi hj => by
      obtain ⟨t1, e1⟩ := hget i hi
      obtain ⟨t2, e2⟩ := hget j hj
      have f1 : its.toArray.getD i .none = .int (ns.getD i 0) t1 := by simp [Array.getD_eq_getD_getElem?, e1]
      have f2 : its.toArray.getD j .none = .int (ns.getD j 0) t2 := by simp [Array.getD_eq_getD_getElem?, e2]
      dsimp only
      rw [f1, f2]
      rfl
    obtain ⟨a1, a2⟩ := argBest_max hb (ns.length - 1) (by omega)
    have hsz : its.toArray.size = ns.length := by simp [hlen]
    rw [hsz] at hP
    generalize argBest (fun i j => Flt.ltV (its.toArray.getD j .none) (its.toArray.getD i .none)) (ns.length - 1) = m at hP a1 a2
    obtain ⟨t, et⟩ := hget m (by omega)
    have hP' : its[m]? = some v := by simpa using hP
    rw [et] at hP'
    cases hP'
    obtain ⟨g1, g2⟩ := maxL_spec hne
    have em : maxL ns = ns.getD m 0 := by
      obtain ⟨i, hi⟩ := List.getElem?_of_mem g1
      have hil := (List.getElem?_eq_some_iff.mp hi).1
      have h1 := a2 i (by omega)
      have e1 : ns.getD i 0 = maxL ns := by rw [List.getD_eq_getElem?_getD, hi]; rfl
      have h2 := g2 (ns.getD m 0) (by rw [List.getD_eq_getElem?_getD, List.getElem?_eq_getElem (show m < ns.length by omega)]; exact List.getElem_mem _)
      omega
    exact ⟨.int (maxL ns), H, I.kept (PySem.old_kept hk), ⟨t, by rw [em]⟩, q⟩
def pmaxL (ns : List Int) : M Int := grd (ns ≠ []) (ok (maxL ns))
section
variable {X : Cx} {G : Ctx} {Γ : Vw} {pos : Pos}
theorem E_maxL {ra : M (List Int)} {p : Pos} (hm : X.mg "max" = none) (hcl : X.calm = true) (ha : ET X G Γ a (bor tInt) ra) (hg : Gl X "max" := by rfl) (hs1 : starEach [a] X.env = [(false, eval a X.env)] := by rfl) :
    ET X G Γ (.Call (.Name "max" p) [a] [] pos) (dat tInt) (ra.bind pmaxL) :=
  E_bi1 (A := bor tInt) (R := dat tInt) (g := pmaxL) (call_maxI hcl) (fun H D a va fa c Q le ⟨_, p, vs, z, h1, h2⟩ hg k => by
    obtain ⟨g1, g2⟩ := grd_ok hg
    cases g2
    have hv := Paired.toInts h2
    subst hv
    exact ⟨p, a, by rw [z], h1, g1, k _ H D [] (Ext.refl le) ⟨rfl, rfl⟩ .nil⟩) (fun xs e => grd_nx (fun z => nomatch z)) hm (by decide +kernel) ha hg (by decide) (by decide) hs1 rfl
/-- isinstance of a value that may be None -/
theorem E_isiO {α : Type} {A : Dt α} {T0 C : String} {x : Str} {ra : M (Option α)} {p p2 : Pos} (hT : IsTy A T0) (hk : kitB T0 C = some true) (hk0 : kitB "NoneType" C = some false) (hm : X.mg "isinstance" = none) (hm2 : X.mg x = none) (hv : bootBuiltins x = some (.type C)) (ha : ET X G Γ a (dat (tOpt A)) ra)
    (hg : Gl X "isinstance" := by rfl) (hg2 : Gl X x := by rfl) (hn : x ≠ "__name__" := by decide) (hd : (x == ("__debug__" : Str)) = false := by decide)
    (hs1 : starEach [a, .Name x p2] X.env = (false, eval a X.env) :: starEach [.Name x p2] X.env := by rfl) (hs2 : starEach [.Name x p2] X.env = [(false, eval (.Name x p2) X.env)] := by rfl) (hpl : (backTo pos (starEach [.Name x p2] X.env)).any (·.1) = false := by rfl) :
    ET X G Γ (.Call (.Name "isinstance" p) [a, .Name x p2] [] pos) (dat tBool) (ra.bind fun v => ok v.isSome) :=
  E_eq (E_bi2 (A := dat (tOpt A)) (B := tyR C) (R := dat tBool) (g := fun v _ => ok v.isSome) call_isi (fun H D a b va vb fa fb c Q le ⟨_, h1⟩ ⟨_, h2⟩ hg k => by
    cases hg
    cases h2
    cases a with
    | none =>
      cases (show va = .non from h1)
      exact ⟨.non, .ty C, _, _, false, rfl, .ty C, .base .non, kit_ty hk0, k _ H D [] (Ext.refl le) ⟨rfl, rfl⟩ .nil⟩
    | some a => exact ⟨va, .ty C, _, _, true, rfl, .ty C, TyX.mono le (hT _ _ _ _ h1.2), kit_ty hk, k _ H D [] (Ext.refl le) ⟨rfl, rfl⟩ .nil⟩) nxok2 hm (by decide +kernel) ha (E_ty C hm2 hv hg2 hn hd) hg (by decide) (by decide) hs1 hs2 hpl) rfl
end
end T

set_option maxRecDepth 100000
set_option maxHeartbeats 4000000
namespace T
open PySem PySem.Spec PySem.Calls PyProof.Rows PySem.W
/-! ### the class of an exception, with or without a dict of its own -/
section
variable {prog : Program} {w : World} {A : Around} {E : Value → Shared → Prop} {s : Shared} {K : Frag} {x D : Addr} {ox : Obj} {od : Option Obj}
theorem found_any {C : Addr} {name : Str} {a g : Value} (hc : (clsIn K C).isSome = true) (ha : findIn K (.ref C) name = some (some a)) (hg : specialIn K a "__get__" = some (some g)) (ht : takesIn K a = some true) : findObj K C od name = some (.bind g a) := by
  obtain ⟨c0, h0⟩ := Option.isSome_iff_exists.mp hc
  unfold findObj
  rw [h0, Option.bind_some, ha, Option.bind_some]
  simp [ht, hg]
theorem class_any {Q : Option Value → Shared → Prop} (C : L2.ExcC K D) (X : K.In s.heap) (I : InstAt s.heap x ox D od) (hq : Q (some (.ref D)) { s with toks := s.toks + 1 }) : wpAny (model prog w) A (getAttr? (.ref x) "__class__") Q E s := by
  have found : findObj K D od "__class__" = some (.bind (.builtin "getset_descriptor.__get__") (.builtin "object.__class__")) := found_any (by obtain ⟨c0, h0, _⟩ := any_some C.hd; rw [h0]; rfl) C.ha C.hn C.ht
  obtain ⟨hp, gg, dd, tt, oo⟩ := s
  have ty0 := I.type (M := model prog w)
  have ga1 := looks_findIn (M := model prog w) X C.hg
  have gt2 := looks_findIn (M := model prog w) X C.hk
  have fd3 := looks_find (M := model prog w) X I found
  have sb : Looks (model prog w) hp (isInstance (.ref x) (.type "BaseException")) true := ty0.andThen (looks_subIn X C.hs)
  have z0 : (false && onTheHeap (Value.builtin "BaseException.__getattribute__")) = false := rfl
  have z2 : (Value.builtin "BaseException.__getattribute__" == Value.builtin "object.__getattribute__") = false := by decide +kernel
  have z1 : (onTheHeap (Value.ref D) && Value.builtin "BaseException.__getattribute__" == Value.builtin "object.__getattribute__") = false := by rw [z2]; rfl
  unfold getAttr? getAttrBy? getAttrBy
  refine wpAny_bind (wpAny_mkText (wpAny_bind (wpAny_attempt (wpAny_holding (wpAny_bind (ty0.at (wpAny_bind (ga1.at ?_))))))))
  show wpAny _ _ (if (onTheHeap (Value.ref D) && Value.builtin "BaseException.__getattribute__" == Value.builtin "object.__getattribute__") = true then _ else _) _ _ _
  rw [z1, if_neg Bool.false_ne_true]
  unfold getAttrByItsOwn hookBefore
  refine wpAny_bind ?_
  have onH : onTheHeap (Value.ref D) = true := rfl
  rw [if_pos onH]
  refine gt2.at (wpAny_bind (wpAny_attempt (wpAny_holding ?_)))
  unfold callGetattribute
  rw [z0, if_neg Bool.false_ne_true]
  unfold boundAndCalled
  rw [PySem.F.excAttr_ValueError.ga.bind (.ref x)]
  refine wpAny_bind (wpAny_pure ?_)
  show wpAny (model prog w) _ (call (.builtin "BaseException.__getattribute__") [.ref x, .str "__class__" tt]) _ _ _
  refine wpAny_call (codeAny_call_builtin PySem.F.excAttr_ValueError.ga.plain PySem.F.entry_bexc_ga ?_)
  refine @check_slot (model prog w) _ _ ⟨hp, gg, dd, tt + 1, oo⟩ "BaseException.__getattribute__" "BaseException" "__getattribute__" (.ref x) [.str "__class__" tt] [] _ (by decide +kernel) (by decide +kernel) sb (PySem.F.args_bexc_ga (.ref x) (.str "__class__" tt)) ?_
  unfold Builtin.«object.__getattribute__»
  refine wpAny_bind (wpAny_of_eq (a := ((Value.ref x : Value), [Value.str "__class__" tt])) (by first | rfl | (simp only [slotArgs]; rfl)) (wpAny_bind (wpAny_pure (wpAny_bind (ty0.at (wpAny_bind (fd3.at ?_)))))))
  show wpAny (model prog w) _ (holding [Value.builtin "object.__class__"] (call (.builtin "getset_descriptor.__get__") [.builtin "object.__class__", .ref x, .ref D]) >>= ret) _ _ _
  refine wpAny_bind (wpAny_holding (wpAny_call (class_get (s := ⟨hp, gg, dd, tt + 1, oo⟩) (ox := ox) (od := od) X I C.hm (wpAny_pure ?_))))
  show wpAny (model prog w) _ (handedOut (.ref D)) _ _ _
  rw [handedOut_of (v := .ref D) rfl]
  first
    | exact wpAny_pure (wpAny_pure hq)
    | exact wpAny_pure hq
    | exact wpAny_pure (wpAny_bind (wpAny_pure (wpAny_pure hq)))
theorem kitx_any (C : L2.ExcC K D) : KitX K (.ref x) (.ref D) (fun h => InstAt h x ox D od) where
  ty := fun _ _ _ J => J.type
  it := fun _ _ X _ => by
    obtain ⟨c0, h0, _⟩ := any_some C.hd
    unfold clsIn at h0
    split at h0
    · rename_i q1 q2 q3 q4 ho
      intro A1 Q1 E1 s1 kp qq
      unfold isType loadHead
      exact wpAny_bind (wpAny_loadPart (kp _ _ (X _ _ ho)) (wpAny_pure qq))
    · cases h0
  ne := fun h tp dd its n sl X htp => by
    obtain ⟨c0, h0, _⟩ := any_some C.hd
    refine Bool.eq_false_iff.mpr fun qq => ?_
    have same : D = tp := Value.ref.inj (beq_iff_eq.mp qq)
    subst same
    unfold clsIn at h0
    split at h0
    · rename_i q1 q2 q3 q4 ho
      have zz := (X _ _ ho).symm.trans htp
      cases zz
    · cases h0
  ca := fun X J kk => class_any C X J kk
end
open L2 in
/-- isinstance(e, c) of what the suite holds, with a dict or without -/
theorem call_isAny {X : Cx} {a D : Addr} {o : Obj} {d : Option Addr} {pn : List (Addr × Obj)} (C : ExcC X.K D) (hz : Zc (.ref D) d o) (hf : ∃ vs, o.data = .fields vs) :
    CallR (X.suite a ((a, o) :: pn)) (.builtin "isinstance") (fun xs H Q => ∃ (c : V) (cv : Value) (b : Bool), xs = [.ref a, c] ∧ (d = none ∨ ∃ dd fs, d = some dd ∧ H dd = some (.xd fs)) ∧ (∀ u, RelV c u → u = cv) ∧ kitOne X.K (.ref D) cv = some b ∧ Q (.bl b) H) := by
  intro pins s σ H xs us Q I r h
  obtain ⟨c, cv, b, rfl, hdd, hcv, hk, q⟩ := h
  obtain ⟨u1, u2, rfl, r1, r2⟩ := vals2 r
  obtain rfl : u1 = Value.ref a := r1
  obtain rfl := hcv _ r2
  obtain ⟨at0, _⟩ := I.pin (a, o) (List.mem_append_left _ List.mem_cons_self)
  obtain ⟨vs, hv⟩ := hf
  have notC : notCls o = true := by unfold notCls; rw [hv] <;> rfl
  rcases hdd with rfl | ⟨dd, fs, rfl, hx⟩
  · have J : InstAt s.heap a o D none := ⟨at0, hz.1, notC, by rw [hz.2]; trivial⟩
    exact kia_one (kitx_any C) I.kIn J hk (fun z => nomatch z) fun tk => ⟨.bl b, H, I.kept (t' := tk) fun _ _ z => z, rfl, q⟩
  · have hob : ObjOk X.prog X.w H s.heap dd (.xd fs) := I.hok dd _ hx
    obtain ⟨mA, hns, hr⟩ := hob
    obtain ⟨od, ho, hl⟩ := lookIn_ns hns
    have J : InstAt s.heap a o D (some od) := ⟨at0, hz.1, notC, by rw [hz.2]; exact ho⟩
    exact kia_one (kitx_any C) I.kIn J hk (fun z => nomatch z) fun tk => ⟨.bl b, H, I.kept (t' := tk) fun _ _ z => z, rfl, q⟩
def exIsF (tbl : List (Str × Bool)) (e : Ex) : M Bool := match tbl.lookup e.cls with
  | some b => ok b
  | none => none
open L2 in
theorem E_isiF {X : Cx} {G : Ctx} {Γ : Vw} {pos : Pos} (i : Nat) {a : Addr} {o : Obj} {c : Value} {d : Option Addr} {pn : List (Addr × Obj)} {x y : Str} {e : Ex} {tbl : List (Str × Bool)} {p p1 p2 : Pos} (F : XIsi X.K X.mg x tbl) (hm : X.mg "isinstance" = none) (hz : Zc c d o) (hf : ∃ vs, o.data = .fields vs)
    (hfind : T.find i Γ = some (eD i (exD X.mg a c d) e) := by rfl) (hN : X.N[i]? = some y := by rfl) (hv : Vis X.env.scope y := by first | exact Or.inl rfl | exact Or.inr (Or.inl rfl) | exact Or.inr (Or.inr rfl))
    (hd : (y == ("__debug__" : Str)) = false := by decide) (hcd : (y == ("__classdict__" : Str)) = false := by decide) (hg : Gl X "isinstance" := by rfl) (hgx : Gl X x := by rfl) (hdx : (x == ("__debug__" : Str)) = false := by decide)
    (hs : starEach [.Name y p1, .Name x p2] X.env = (false, eval (.Name y p1) X.env) :: starEach [.Name x p2] X.env := by rfl) (hs2 : starEach [.Name x p2] X.env = (false, eval (.Name x p2) X.env) :: starEach [] X.env := by rfl) (hpl : (backTo pos (starEach [.Name x p2] X.env)).any (·.1) = false := by rfl) :
    ET (X.suite a ((a, o) :: pn)) G Γ (.Call (.Name "isinstance" p) [.Name y p1, .Name x p2] [] pos) (dat tBool) (exIsF tbl e) := fun w =>
  ⟨fun pins s σ H Q I ⟨H0, D0, D, os, hr, r, hx, hp⟩ => by
    obtain ⟨fp, os', v, q1, ⟨q2, q3, q4⟩, _, _, _⟩ := hr.hold.find hfind hr.nd
    unfold exIsF at hx
    cases hl : tbl.lookup e.cls with
    | none => rw [hl] at hx; cases hx
    | some b =>
      rw [hl] at hx
      cases hx
      obtain ⟨Cn, hn, rfl, hdn⟩ := q4
      have hdd : d = none ∨ ∃ dd fs, d = some dd ∧ H dd = some (.xd fs) := by
        cases hfs : e.fs with
        | nil => rw [hfs] at hdn; exact .inl hdn
        | cons f fs =>
          rw [hfs] at hdn
          obtain ⟨dx, vs, e1, e2, _⟩ := hdn
          exact .inr ⟨dx, vs, e1, hr.le _ _ e2⟩
      cases q3
      obtain ⟨cv, hc, hall⟩ := F.ex
      obtain ⟨eC, ek⟩ := hall _ _ hl _ hn
      rcases hc with ⟨C, hmx, rfl⟩ | ⟨hmx, hne, T0, hb, rfl⟩
      · exact (pe_callB (X := X.suite a ((a, o) :: pn)) (call_isAny eC hz hf) hg hm (by rfl) (pa_cons (pe_var hN hv hd hcd) (pa_cons (pe_glob (v := .ref C) hgx hmx rfl hdx) pa_nil hs2) hs) (by decide) (by decide) hs hpl).run pins s σ H Q I
          ⟨.ref a, q1, .ref C, .ref C, b, rfl, hdd, fun u hu => hu, ek, hp (.bl b) H D [] (Ext.refl hr.le) ⟨rfl, rfl⟩ .nil⟩
      · exact (pe_callB (X := X.suite a ((a, o) :: pn)) (call_isAny eC hz hf) hg hm (by rfl) (pa_cons (pe_var hN hv hd hcd) (pa_cons (pe_bltn (v := .ty T0) hgx hmx hb rfl hne hdx) pa_nil hs2) hs) (by decide) (by decide) hs hpl).run pins s σ H Q I
          ⟨.ref a, q1, .ty T0, .type T0, b, rfl, hdd, fun u hu => hu, ek, hp (.bl b) H D [] (Ext.refl hr.le) ⟨rfl, rfl⟩ .nil⟩⟩
/-! ### a field of what the suite holds -/
structure XFld (K : Fr) (mg : Str → Option Value) (n : Str) (tbl : List (Str × Bool)) : Prop where
  ex : ∀ m b, tbl.lookup m = some b → ∀ Cn, mg m = some (.ref Cn) → L2.XfC K Cn ∧ PySem.W.findIn K (.ref Cn) n = some none
def fldRow (tbl : List (Str × Bool)) (n : Str) (e : Ex) : M (List Int) := match tbl.lookup e.cls, e.fs.lookup n with
  | some _, some (.row l) => ok l
  | _, _ => none
open L2 in
theorem fld_look {K : Fr} {D : L2.Hp} {n : Str} {f : XF} : ∀ {xs : List (Str × XF)} {ys : List (Str × L2.V)}, Paired (fun (p : Str × XF) (q : Str × L2.V) => p.1 = q.1 ∧ XFrep K D p.2 q.2) xs ys → xs.lookup n = some f → ∃ v, ys.lookup n = some v ∧ XFrep K D f v := by
  intro xs ys h
  induction h with
  | nil => intro z; cases z
  | @cons x y xs ys r t ih =>
    intro z
    obtain ⟨k, fx⟩ := x
    obtain ⟨k', v⟩ := y
    obtain ⟨rk, rv⟩ := r
    dsimp only at rk rv
    subst rk
    simp only [List.lookup] at z ⊢
    cases hk : (n == k) with
    | true => rw [hk] at z; cases z; exact ⟨v, rfl, rv⟩
    | false => rw [hk] at z; exact ih z
open L2 in
theorem E_xRow {X : Cx} {G : Ctx} {Γ : Vw} {pos : Pos} (i : Nat) {a : Addr} {o : Obj} {c : Value} {d : Option Addr} {pn : List (Addr × Obj)} {n y : Str} {e : Ex} {tbl : List (Str × Bool)} {p1 : Pos} (F : XFld X.K X.mg n tbl) (hz : Zc c d o) (hf : ∃ vs, o.data = .fields vs)
    (hfind : T.find i Γ = some (eD i (exD X.mg a c d) e) := by rfl) (hN : X.N[i]? = some y := by rfl) (hv : Vis X.env.scope y := by first | exact Or.inl rfl | exact Or.inr (Or.inl rfl) | exact Or.inr (Or.inr rfl))
    (hd : (y == ("__debug__" : Str)) = false := by decide) (hcd : (y == ("__classdict__" : Str)) = false := by decide) (hb : attributeBase (.Name y p1) n X.env (eval (.Name y p1) X.env) = eval (.Name y p1) X.env := by rfl) :
    ET (X.suite a ((a, o) :: pn)) G Γ (.Attribute (.Name y p1) n pos) (dat (tRow tInt)) (fldRow tbl n e) := fun w =>
  ⟨fun pins s σ H Q I ⟨H0, D0, D, os, hr, r, hx, hp⟩ => by
    obtain ⟨fp, os', v, q1, ⟨q2, q3, q4⟩, _, _, _⟩ := hr.hold.find hfind hr.nd
    unfold fldRow at hx
    cases hl : tbl.lookup e.cls with
    | none => rw [hl] at hx; cases hx
    | some b =>
      rw [hl] at hx
      cases hk : e.fs.lookup n with
      | none => rw [hk] at hx; cases hx
      | some f =>
        rw [hk] at hx
        cases f with
        | int j => cases hx
        | str t => cases hx
        | row l =>
          cases hx
          obtain ⟨Cn, hn, rfl, hdn⟩ := q4
          cases q3
          obtain ⟨eC, no⟩ := F.ex _ _ hl _ hn
          cases hfs : e.fs with
          | nil => rw [hfs] at hk; cases hk
          | cons g gs =>
            rw [hfs] at hdn
            obtain ⟨dx, vs, e1, e2, e3⟩ := hdn
            rw [hfs] at hk
            obtain ⟨v', k1, k2⟩ := fld_look e3 hk
            exact (pe_xf (X := X) (e := .Name y p1) eC no hz hf (pe_var hN hv hd hcd) hb).run pins s σ H Q I ⟨.ref a, q1, rfl, rfl, dx, vs, v', e1, hr.le _ _ e2, k1, hp v' H D [] (Ext.refl hr.le) ⟨rfl, k2⟩ .nil⟩⟩
section
variable {K : Fr} {mg : Str → Option Value} {h : Heap} {n m : Str} {Cn : Addr} {b : Bool}
def FldAt (K : Fr) (mg : Str → Option Value) (n : Str) (p : Str × Bool) : Prop := ∃ Cn, mg p.1 = some (.ref Cn) ∧ L2.XfC K Cn ∧ PySem.W.findIn K (.ref Cn) n = some none
theorem fld_at (X : K.In h) (G : h.Ns mainGlobals mg) (a : PySem.W.nsIn K mainGlobals m = some (some (.ref Cn))) (e : L2.ExcC K Cn) (no : PySem.W.findIn K (.ref Cn) n = some none) : FldAt K mg n (m, b) := ⟨Cn, PySem.W.mg_of X G a, ⟨e.hg, e.hk, e.hs, e.hd⟩, no⟩
theorem xfld_mk {tbl : List (Str × Bool)} (all : ∀ p ∈ tbl, FldAt K mg n p) : XFld K mg n tbl := ⟨fun k b hl Cn hn => by
  obtain ⟨C', h1, h2, h3⟩ := all _ (look_mem hl)
  rw [show mg k = some (.ref C') from h1] at hn
  cases hn
  exact ⟨h2, h3⟩⟩
end
end T

set_option maxRecDepth 100000
set_option maxHeartbeats 4000000
namespace T
open PySem PySem.Spec PyProof.Rows L2

/-! ### lists that a def changes for its caller -/
/-- what holds a list of one's own, however known -/
structure OwnLike {α : Type} (R : Rp (List α)) (A : Dt α) : Prop where
  op : ∀ (K : Fr) (H D : Hp) (fp : List Addr) (xs : List α) (v : L2.V), R.rep K H D fp xs v → ∃ p vs, v = .ref p ∧ fp = [p] ∧ H p = some (.lst vs) ∧ Paired (A.rep K D) xs vs ∧
    ∀ (H' D' : Hp) (xs' : List α) (vs' : List L2.V), H' p = some (.lst vs') → Paired (A.rep K D') xs' vs' → R.rep K H' D' [p] xs' (.ref p)
theorem own_like {α : Type} (A : Dt α) : OwnLike (own A) A := ⟨fun K H D fp xs v ⟨p, vs, h1, h2, h3, h4⟩ => ⟨p, vs, h1, h2, h3, h4, fun H' D' xs' vs' h5 h6 => ⟨p, vs', rfl, rfl, h5, h6⟩⟩⟩
/-- the list at p -/
def ownAt {α : Type} (p : Addr) (A : Dt α) : Rp (List α) := ⟨fun K H D fp xs v => v = .ref p ∧ fp = [p] ∧ ∃ vs, H p = some (.lst vs) ∧ Paired (A.rep K D) xs vs,
  fun e d ⟨h1, h2, vs, h3, h4⟩ => ⟨h1, h2, vs, e _ _ h3, A.monos d h4⟩⟩
theorem ownAt_st {α : Type} (p : Addr) (A : Dt α) : Stable (ownAt p A) := fun K H H' D D' fp a v k d ⟨h1, h2, vs, h3, h4⟩ =>
  ⟨h1, h2, vs, by rw [k p (by rw [h2]; exact List.mem_cons_self)]; exact h3, A.monos d h4⟩
theorem ownAt_like {α : Type} (p : Addr) (A : Dt α) : OwnLike (ownAt p A) A := ⟨fun K H D fp xs v ⟨h1, h2, vs, h3, h4⟩ => ⟨p, vs, h1, h2, h3, h4, fun H' D' xs' vs' h5 h6 => ⟨rfl, rfl, vs', h5, h6⟩⟩⟩
abbrev eP {α : Type} (i : Nat) (p : Addr) (A : Dt α) (a : List α) : Ent := ⟨i, List α, ownAt p A, ownAt_st p A, a⟩
def del (H : Hp) (p : Addr) : Hp := fun b => if b = p then none else H b
theorem del_same {H : Hp} {p : Addr} : del H p p = none := if_pos rfl
theorem del_ne {H : Hp} {p b : Addr} (h : b ≠ p) : del H p b = H b := if_neg h
theorem del_le {H : Hp} {p : Addr} : Le (del H p) H := fun b o z => by
  by_cases e : b = p
  · subst e; rw [del_same] at z; cases z
  · rw [del_ne e] at z; exact z

section
variable {X : Cx} {G : Ctx} {Γ : Vw} {α β γ δ τ ρ θ C : Type} {a b c e tg : Expr} {pos : Pos} {es : List Expr} {R : Rp ρ} {Z : θ → Dest ρ} {RL : Rp (List α)} {sL : Stable RL} {A : Dt α}
theorem E_ownG (i : Nat) {x : Str} {val : List α} (L : OwnLike RL A) (hf : find i Γ = some ⟨i, List α, RL, sL, val⟩ := by rfl) (hN : X.N[i]? = some x := by rfl) (hv : Vis X.env.scope x := by first | exact Or.inl rfl | exact Or.inr (Or.inl rfl) | exact Or.inr (Or.inr rfl))
    (hd : (x == ("__debug__" : Str)) = false := by decide) (hcd : (x == ("__classdict__" : Str)) = false := by decide) : ET X G Γ (.Name x pos) (bor A) (ok val) := fun w =>
  (pe_var hN hv hd hcd).weak fun σ H Q ⟨H0, D0, D, os, hr, x, hx, hp⟩ => by
    cases hx
    obtain ⟨fp, os', v, q1, q2, _, _, _⟩ := hr.hold.find hf hr.nd
    obtain ⟨p, vs, r1, r2, r3, r4, _⟩ := L.op _ _ _ _ _ _ q2
    exact ⟨v, q1, hp v H D [] (Ext.refl hr.le) ⟨rfl, p, vs, r1, SqL.of r3, r4⟩ .nil⟩
theorem E_ownTG (i : Nat) {x : Str} {val : List α} (L : OwnLike RL A) (hf : find i Γ = some ⟨i, List α, RL, sL, val⟩ := by rfl) (hN : X.N[i]? = some x := by rfl) (hv : Vis X.env.scope x := by first | exact Or.inl rfl | exact Or.inr (Or.inl rfl) | exact Or.inr (Or.inr rfl))
    (hd : (x == ("__debug__" : Str)) = false := by decide) (hcd : (x == ("__classdict__" : Str)) = false := by decide) : ET X G Γ (.Name x pos) (borT A) (ok val) := fun w =>
  (pe_var hN hv hd hcd).weak fun σ H Q ⟨H0, D0, D, os, hr, x, hx, hp⟩ => by
    cases hx
    obtain ⟨fp, os', v, q1, q2, _, _, _⟩ := hr.hold.find hf hr.nd
    obtain ⟨p, vs, r1, r2, r3, r4, _⟩ := L.op _ _ _ _ _ _ q2
    exact ⟨v, q1, hp v H D [] (Ext.refl hr.le) ⟨rfl, p, vs, r1, r3, r4⟩ .nil⟩
/-- the address of such a list, and what a store makes of it -/
theorem Rel.mutG {K : Fr} {H0 D0 H D : Hp} {σ : L2.St} {os : List Addr} {i : Nat} {val : List α} (L : OwnLike RL A) (r : Rel K H0 D0 Γ σ H D os) (hf : find i Γ = some ⟨i, List α, RL, sL, val⟩) :
    ∃ p vs, σ[i]? = some (some (.ref p)) ∧ H p = some (.lst vs) ∧ Paired (A.rep K D) val vs ∧ p ∈ os ∧ ∀ H1 D1, Ext H D H1 D1 → H1 p = some (.lst vs) ∧ Paired (A.rep K D1) val vs ∧
      ∀ new vs', Paired (A.rep K D1) new vs' → ∃ os', Rel K H0 D0 (T.put ⟨i, List α, RL, sL, new⟩ Γ) σ (L2.upd H1 p (.lst vs')) D1 os' := by
  obtain ⟨fp, os', v, q1, q2, q3, q4, q5⟩ := r.hold.find hf r.nd
  obtain ⟨p, vs, rfl, rfl, r3, r4, r5⟩ := L.op _ _ _ _ _ _ q2
  have ho : p ∈ os := q5 p (List.mem_append_left _ List.mem_cons_self)
  refine ⟨p, vs, q1, r3, r4, ho, fun H1 D1 e => ⟨e.h _ _ r3, A.monos e.d r4, fun new vs' hn => ?_⟩⟩
  have r := r.grow e
  obtain ⟨h1, h2, h3⟩ := r.own p ho
  have q3' := q3.agree (fun x hx => e.h.eq (Le.ne (Same.refl _) ((‹Rel K H0 D0 Γ σ H D os›).own x (q5 x (List.mem_append_right _ hx))).2.2)) e.d
  have agree : ∀ x ∈ os', L2.upd H1 p (.lst vs') x = H1 x := fun x hx => upd_ne (fun z => (List.nodup_cons.mp q4).1 (z ▸ hx))
  refine ⟨p :: os', ⟨fun b o z => ?_, r.ext.d, fun b o z => ?_, r.ext.out⟩, fun x hx => ?_, q4, ⟨[p], os', rfl, ⟨.ref p, q1, r5 _ _ _ _ upd_same hn⟩, q3'.agree agree (Same.refl _)⟩⟩
  · rw [upd_ne (ne_of_none z h1)]; exact r.ext.h b o z
  · rw [upd_ne (ne_of_none z h2)]; exact r.ext.dh b o z
  · obtain ⟨m1, m2, m3⟩ := r.own x (q5 x hx)
    refine ⟨m1, m2, ?_⟩
    by_cases z : x = p
    · subst z; rw [upd_same]; simp
    · rw [upd_ne z]; exact m3
theorem S_storeG (i : Nat) {x : Str} {val : List α} {re : M α} {rj : M Int} {j : Expr} {p sp : Pos} (L : OwnLike RL A) (he : ET X G Γ e (dat A) re) (hj : ET X G Γ j (dat tInt) rj) (hv : find i Γ = some ⟨i, List α, RL, sL, val⟩ := by rfl) (hN : X.N[i]? = some x := by rfl)
    (hvis : Vis X.env.scope x := by first | exact Or.inl rfl | exact Or.inr (Or.inl rfl) | exact Or.inr (Or.inr rfl)) (hd : (x == ("__debug__" : Str)) = false := by decide) (hcd : (x == ("__classdict__" : Str)) = false := by decide)
    (ha : ∀ v, assign (.Subscript (.Name x p) j sp) X.env v = (do
      let ov ← holding [v] (eval (.Name x p) X.env)
      let iv ← holding [v, ov] (eval j X.env)
      standAt sp
      holding [v, ov, iv] (setItem ov iv v)
      release [v, ov, iv] []) := by intro _; rfl)
    (hs : swapsWithSole [.Subscript (.Name x p) j sp] e pos.line X.env = pure false := by rfl) (hw : swappedStores [.Subscript (.Name x p) j sp] e X.env = pure none := by rfl)
    (h1 : (assignEach [.Subscript (.Name x p) j sp] X.env).map (·.2) = [assign (.Subscript (.Name x p) j sp) X.env] := by rfl) :
    JS X G Γ (.Assign [.Subscript (.Name x p) j sp] e pos) R (fun a => .nx (put ⟨i, List α, RL, sL, a⟩ Γ)) (re.bind fun y => rj.bind fun k => pset val k y) := fun w =>
  (ps_asg (he w) (pg_sub (pe_var hN hvis hd hcd) (hj w) set_list ha) hs hw h1).weak fun E σ H ⟨H0, D0, D, os, hr, x, hx, hp⟩ => by
    obtain ⟨q, vs, h1, h2, h3, _, h4⟩ := hr.mutG L hv
    refine seqE (P := fun _ _ x => jPost X.K X.mg G H0 D0 R (fun a => Dest.nx (put ⟨i, List α, RL, sL, a⟩ Γ)) E x) hr hx hp (fun e h => fun c d => h c d σ) (fun _ _ _ h => h) fun z H1 D1 fp v _ hx1 e1 r1 f1 hr1 hp1 => ?_
    refine ⟨.ref q, h1, ?_⟩
    refine seqE (P := fun _ _ x => jPost X.K X.mg G H0 D0 R (fun a => Dest.nx (put ⟨i, List α, RL, sL, a⟩ Γ)) E x) hr1 hx1 hp1 (fun e h => fun c d => h c d σ) (fun _ _ _ h => h) fun k H2 D2 fp2 v2 _ hx2 e2 r2 f2 hr2 hp2 => ?_
    unfold pset at hx2
    cases g : ixN val.length k with
    | none => rw [g] at hx2; cases hx2
    | some j' =>
      rw [g] at hx2
      cases hx2
      obtain ⟨m1, m2, m3⟩ := h4 H2 D2 (e1.trans e2)
      refine ⟨q, vs, k, j', rfl, r2.2, m1, by rw [← h3.length]; exact g, ?_⟩
      obtain ⟨os', qq⟩ := m3 (val.set j' z) (vs.set j' v) (Paired.set (A.mono e2.d r1.2) j' m2)
      exact hp2 σ _ D2 os' qq

/-! ### defs that change the list of their first argument, and fall off their end -/
def spIO (K : Fr) (mg : Str → Option Value) (A : Dt α) (B : Ap τ) (m : List α → τ → M (List α)) : Sp := fun vs H Q E => ∃ D t xs p vp vs0, vs = .ref p :: vs0 ∧ Le D H ∧ D p = none ∧ H p = some (.lst vp) ∧ Paired (A.rep K D) xs vp ∧ B.rep K D t vs0 ∧ ∃ x, m xs t = some x ∧ match x with
  | .ok ys => ∀ H' D' vq, Ext (del H p) D H' D' → D' p = none → H' p = some (.lst vq) → Paired (A.rep K D') ys vq → Q .non H'
  | .ex e => ∀ c d H' D', Ext (del H p) D H' D' → XRep K mg D' e c d → E c d H'
structure FxIO (P : Program) (w : World) (K : Fr) (mg : Str → Option Value) (base : Heap) (x : Str) (k : Nat) (A : Dt α) (B : Ap τ) (m : List α → τ → M (List α)) : Prop where
  ex : ∃ f fd ps, FnOk P w K mg base (L2.CX P w) k f fd ps (spIO K mg A B m) ∧ mg x = some (.ref f) ∧ PySem.W.keepIn K (.ref f) = true ∧ Binds K fd ps []
theorem fx_io {P : Program} {w : World} {K : Fr} {mg : Str → Option Value} {base : Heap} {x : Str} {st : Stmt} (N ps : List Str) {k : Nat} {A : Dt α} {B : Ap τ} {m : List α → τ → M (List α)} (h : DefAt K mg x st) (S : FnScope N ps (defScope st)) (hl : B.len + 1 = ps.length)
    (hb : ∀ (kV doc pm : Value) (an : Option Addr) (cdv ct : Value) (us : List Value), us.length = ps.length → bindArgs (PySem.W.fnOf x x (defArgs st) (defBody st) (defScope st) .none kV doc pm an cdv ct) ⟨us, []⟩ = pure (ps.zip us))
    (body : ∀ (p : Addr) (cdv : Value) (f : Addr) (Ar : Around) (outer : List Env) (s : Shared) (H : Hp) (E : XK) (xs : List α) (t : τ),
      JB (cxOf (L2.CX P w) P w K mg base N x (defScope st) f cdv Ar outer s H E) ⟨fun c d _ H => E c d H, [], k, true⟩ (eP 0 p A xs :: B.view 1 t) (defBody st) (dat tNone) (fun ys : List α => .nx [eP 0 p A ys]) (m xs t)) : FxIO P w K mg base x (k + 1) A B m := by
  obtain ⟨f, fd, F, hm⟩ := h.ex
  refine ⟨f, fd, ps, ?_, hm, F.kp, F.binds hb⟩
  refine F.okX S (fun vs H Q E ⟨D, t, xs, p, vp, vs0, hv, _, _, _, _, ht, _⟩ => by rw [hv, List.length_cons, Ap.length ht, hl]) fun cdv Ar outer s H vs Q E hr ⟨D, t, xs, p, vp, vs0, hv, le, dp, hp, hx0, ht, x, hx, hq⟩ => ?_
  subst hv
  refine ⟨_, body p cdv f Ar outer s H E xs t ⟨takes_of rfl rfl rfl rfl, S.nd, fun _ => hr, fun _ => rfl, hr.units, passes_of rfl⟩, ?_⟩
  have hH : Hold K H D ([some (V.ref p)] ++ vs0.map some ++ List.replicate (N.length - (V.ref p :: vs0).length) none) (eP 0 p A xs :: B.view 1 t) [p] :=
    ⟨[p], [], rfl, ⟨.ref p, rfl, rfl, rfl, vp, hp, hx0⟩, Ap.hold (more := List.replicate (N.length - (V.ref p :: vs0).length) none) [some (V.ref p)] ht⟩
  refine ⟨del H p, D, D, [p], ⟨⟨del_le, Same.refl _, le, fun _ e _ => e⟩, fun q hq => ?_, by simp, hH⟩, x, hx, ?_⟩
  · have : q = p := by simpa using hq
    subst this
    exact ⟨del_same, dp, by rw [hp]; simp⟩
  · cases x with
    | ok ys =>
      intro σ' H' D' os' r
      obtain ⟨fp, os2, h1, ⟨v, h2, rfl, rfl, vq, h3, h4⟩, h5⟩ := r.hold
      exact hq H' D' vq r.ext (r.own p (by rw [h1]; simp)).2.1 h3 h4
    | ex e => exact fun c d σ' H' D' os' r => hq c d H' D' r.ext

/-- what stays true of the others where the list at p was changed -/
theorem Rel.io {K : Fr} {H0 D0 H D H' D' : Hp} {σ : L2.St} {os : List Addr} {p : Addr} {vq : List L2.V} {val new : List α} {i : Nat} (L : OwnLike RL A) (r : Rel K H0 D0 Γ σ H D os) (hf : find i Γ = some ⟨i, List α, RL, sL, val⟩) (hσ : σ[i]? = some (some (.ref p)))
    (e : Ext (del H p) D H' D') (dp : D' p = none) (hp : H' p = some (.lst vq)) (hn : Paired (A.rep K D') new vq) : ∃ os', Rel K H0 D0 (T.put ⟨i, List α, RL, sL, new⟩ Γ) σ H' D' os' := by
  obtain ⟨fp, os', v, q1, q2, q3, q4, q5⟩ := r.hold.find hf r.nd
  obtain ⟨p', vs, rfl, rfl, r3, r4, r5⟩ := L.op _ _ _ _ _ _ q2
  rw [hσ] at q1
  cases q1
  have ho : p ∈ os := q5 p (List.mem_append_left _ List.mem_cons_self)
  have np : ∀ x ∈ os', x ≠ p := fun x hx z => (List.nodup_cons.mp q4).1 (z ▸ hx)
  have hd : ∀ b, b ≠ p → H b ≠ none → del H p b ≠ none := fun b hb z => by rw [del_ne hb]; exact z
  obtain ⟨h1, h2, h3⟩ := r.own p ho
  refine ⟨p :: os', ⟨fun b o z => ?_, r.ext.d.trans e.d, e.dh, fun b z1 z2 => ?_⟩, fun x hx => ?_, q4, ⟨[p], os', rfl, ⟨.ref p, hσ, r5 _ _ _ _ hp hn⟩, ?_⟩⟩
  · have nb : b ≠ p := ne_of_none z h1
    exact e.h b o (by rw [del_ne nb]; exact r.ext.h b o z)
  · have nb : b ≠ p := fun z => z2 (z ▸ h1)
    exact e.out b (r.ext.out b z1 z2) (hd b nb (r.ext.h.ne z2))
  · rcases List.mem_cons.mp hx with rfl | hx
    · exact ⟨h1, dp, by rw [hp]; simp⟩
    · obtain ⟨m1, m2, m3⟩ := r.own x (q5 x (List.mem_append_right _ hx))
      have nx := np x hx
      exact ⟨m1, e.out x m2 (hd x nx m3), e.h.ne (hd x nx m3)⟩
  · refine q3.agree (fun x hx => ?_) e.d
    have nx := np x hx
    have m3 := (r.own x (q5 x (List.mem_append_right _ hx))).2.2
    rw [e.h.eq (hd x nx m3), del_ne nx]
/-- .. and where the call was left by an exception: without the list -/
theorem Rel.ioX {K : Fr} {H0 D0 H D H' D' : Hp} {σ : L2.St} {os : List Addr} {p : Addr} {val : List α} {i : Nat} (L : OwnLike RL A) (r : Rel K H0 D0 Γ σ H D os) (hf : find i Γ = some ⟨i, List α, RL, sL, val⟩) (hσ : σ[i]? = some (some (.ref p)))
    (e : Ext (del H p) D H' D') : ∃ os', Rel K H0 D0 (T.rmv i Γ) σ H' D' os' := by
  obtain ⟨fp, os', v, q1, q2, q3, q4, q5⟩ := r.hold.find hf r.nd
  obtain ⟨p', vs, rfl, rfl, r3, r4, r5⟩ := L.op _ _ _ _ _ _ q2
  rw [hσ] at q1
  cases q1
  have ho : p ∈ os := q5 p (List.mem_append_left _ List.mem_cons_self)
  have np : ∀ x ∈ os', x ≠ p := fun x hx z => (List.nodup_cons.mp q4).1 (z ▸ hx)
  have hd : ∀ b, b ≠ p → H b ≠ none → del H p b ≠ none := fun b hb z => by rw [del_ne hb]; exact z
  obtain ⟨h1, h2, h3⟩ := r.own p ho
  refine ⟨os', ⟨fun b o z => ?_, r.ext.d.trans e.d, e.dh, fun b z1 z2 => ?_⟩, fun x hx => ?_, (List.nodup_cons.mp q4).2, ?_⟩
  · have nb : b ≠ p := ne_of_none z h1
    exact e.h b o (by rw [del_ne nb]; exact r.ext.h b o z)
  · have nb : b ≠ p := fun z => z2 (z ▸ h1)
    exact e.out b (r.ext.out b z1 z2) (hd b nb (r.ext.h.ne z2))
  · obtain ⟨m1, m2, m3⟩ := r.own x (q5 x (List.mem_append_right _ hx))
    have nx := np x hx
    exact ⟨m1, e.out x m2 (hd x nx m3), e.h.ne (hd x nx m3)⟩
  · refine q3.agree (fun x hx => ?_) e.d
    have nx := np x hx
    have m3 := (r.own x (q5 x (List.mem_append_right _ hx))).2.2
    rw [e.h.eq (hd x nx m3), del_ne nx]
/-- f(xs, ..) alone, xs changed there -/
theorem S_callIO (i : Nat) {x y : Str} {k : Nat} {B : Ap τ} {m : List α → τ → M (List α)} {val : List α} {r : M (List α)} {p p2 ep : Pos} (L : OwnLike RL A) (F : FxIO X.prog X.w X.K X.mg X.base x k A B m) (hk : k ≤ G.k) (ha : AR X G Γ es B (m val) r) (is : List Nat) (hv : pick is (rmv i Γ) = G.Vx) (hv2 : pick is Γ = G.Vx)
    (hf : find i Γ = some ⟨i, List α, RL, sL, val⟩ := by rfl) (hN : X.N[i]? = some y := by rfl) (hvis : Vis X.env.scope y := by first | exact Or.inl rfl | exact Or.inr (Or.inl rfl) | exact Or.inr (Or.inr rfl)) (hd : (y == ("__debug__" : Str)) = false := by decide) (hcd : (y == ("__classdict__" : Str)) = false := by decide)
    (hc : G.c = true := by rfl) (hg : Gl X x := by rfl) (hdb : (x == ("__debug__" : Str)) = false := by decide) (he : starEach (.Name y p2 :: es) X.env = (false, eval (.Name y p2) X.env) :: starEach es X.env := by rfl) (hpl : (backTo ep (starEach es X.env)).any (·.1) = false := by rfl)
    (hs : swapsWith (.Call (.Name x p) (.Name y p2 :: es) [] ep) none pos.line X.env = pure false := by rfl) :
    JS X G Γ (.Expr (.Call (.Name x p) (.Name y p2 :: es) [] ep) pos) R (fun a => .nx (put ⟨i, List α, RL, sL, a⟩ Γ)) r := fun w => by
  obtain ⟨f, fd, ps, F, hm, hkp, hb⟩ := F.ex
  refine (ps_expr (pe_callS F ((w.room hc).mono hk) hg hm hkp hb (fun σ => passAt w.tk σ) (pa_cons (pe_var hN hvis hd hcd) (ha w) he) hdb he hpl) hs).weak fun E σ H ⟨H0, D0, D, os, hr, x, hx, hp⟩ => ?_
  obtain ⟨q, vs, h1, h2, h3, ho, h4⟩ := hr.mutG L hf
  refine ⟨.ref q, h1, ?_⟩
  refine ⟨H0, D0, D, os, x, fun _ _ x => jPost X.K X.mg G H0 D0 R (fun a => Dest.nx (put ⟨i, List α, RL, sL, a⟩ Γ)) E x, hr, hx, hp, fun _ _ _ _ _ _ h => h, fun e z => by subst z; exact fun c d => hp c d σ, fun t us H1 D1 hk e1 ht hp1 => ?_⟩
  obtain ⟨m1, m2, m3⟩ := h4 H1 D1 e1
  have hr1 := hr.grow e1
  refine ⟨D1, t, val, q, vs, us, rfl, e1.dh, (hr1.own q ho).2.1, m1, m2, ht, x, hk, ?_⟩
  cases x with
  | ok ys =>
    intro H' D' vq e2 dq hq hn
    obtain ⟨os', rr⟩ := hr1.io L hf h1 e2 dq hq hn
    exact hp1 σ H' D' os' rr
  | ex e =>
    intro c d H' D' e2 hxr
    obtain ⟨os', rr⟩ := hr1.ioX L hf h1 e2
    obtain ⟨os2, rr2⟩ := rr.pick is
    rw [hv] at rr2
    exact hp1 c d σ H' D' os2 rr2 hxr
end
end T

set_option maxRecDepth 100000
set_option maxHeartbeats 1000000
namespace T
open PySem PySem.Spec PyProof.Rows L2
/-! ### the mathematics of mirrors: loops -/
section
variable {α β γ C ρ : Type}
theorem loopM_nil (f : C → α → M C) (c : C) : loopM f c [] = ok c := rfl
theorem loopM_cons (f : C → α → M C) (c : C) (x : α) (xs : List α) : loopM f c (x :: xs) = (f c x).bind fun c' => loopM f c' xs := rfl
/-- a loop by an invariant over its turns -/
theorem loopM_inv {f : C → α → M C} (P : Nat → C → Prop) {xs : List α} {c : C} (h0 : P 0 c) (hs : ∀ (i : Nat) c x, xs[i]? = some x → P i c → ∃ c', f c x = ok c' ∧ P (i + 1) c') :
    ∃ c', loopM f c xs = ok c' ∧ P xs.length c' := by
  induction xs generalizing c P with
  | nil => exact ⟨c, rfl, h0⟩
  | cons x xs ih =>
    obtain ⟨c1, e1, p1⟩ := hs 0 c x (by simp) h0
    obtain ⟨c2, e2, p2⟩ := ih (fun i => P (i + 1)) p1 (fun i c y hy => hs (i + 1) c y (by simpa using hy))
    refine ⟨c2, ?_, p2⟩
    rw [loopM_cons, e1, bind_ok, e2]
/-- a loop whose turns are known: a fold -/
theorem loopM_fold {f : C → α → M C} {g : C → α → C} {xs : List α} {c : C} (P : C → Prop) (h0 : P c) (hs : ∀ c x, x ∈ xs → P c → f c x = ok (g c x) ∧ P (g c x)) :
    loopM f c xs = ok (xs.foldl g c) ∧ P (xs.foldl g c) := by
  induction xs generalizing c with
  | nil => exact ⟨rfl, h0⟩
  | cons x xs ih =>
    obtain ⟨e, p⟩ := hs c x List.mem_cons_self h0
    rw [loopM_cons, e, bind_ok, List.foldl_cons]
    exact ih p fun c y hy => hs c y (List.mem_cons_of_mem _ hy)
/-- a while by an invariant and a measure -/
theorem whileM_inv {t : C → M Bool} {b : C → M C} (P : C → Prop) (μ : C → Nat) (hs : ∀ c, P c → (t c = ok false) ∨ (t c = ok true ∧ ∃ c', b c = ok c' ∧ P c' ∧ μ c' < μ c)) {c : C} (h0 : P c) :
    ∃ c', whileM t b c = ok c' ∧ P c' ∧ t c' = ok false := by
  generalize hn : μ c = n
  induction n using Nat.strongRecOn generalizing c with
  | _ n ih =>
    rcases hs c h0 with h | ⟨h, c1, e1, p1, l1⟩
    · exact ⟨c, by rw [whileM_eq, h]; rfl, h0, h⟩
    · obtain ⟨c2, e2, p2, q2⟩ := ih (μ c1) (hn ▸ l1) p1 rfl
      refine ⟨c2, ?_, p2, q2⟩
      rw [whileM_eq, h, bind_ok, if_pos rfl, e1, bind_ok, e2]
theorem mapC_ok {f : α → M β} {g : α → β} {xs : List α} (h : ∀ x ∈ xs, f x = ok (g x)) (hl : xs.length ≤ sizeLine) : mapC f xs = ok (xs.map g) := by
  have : ∀ ys : List α, (∀ x ∈ ys, f x = ok (g x)) → compG (fun _ => ok true) f ys = ok (ys.map g) := by
    intro ys
    induction ys with
    | nil => intro _; rfl
    | cons y ys ih =>
      intro h
      show (noX (ok true)).bind _ = _
      rw [noX_ok, bind_ok, if_pos rfl, h y List.mem_cons_self, noX_ok, bind_ok, ih fun x hx => h x (List.mem_cons_of_mem _ hx)]
      rfl
  unfold mapC compL
  rw [this xs h, bind_ok]
  exact grd_pos (by rw [List.length_map]; exact hl) _
theorem compL_ok {t : α → M Bool} {p : α → Bool} {f : α → M β} {g : α → β} {xs : List α} (ht : ∀ x ∈ xs, t x = ok (p x)) (h : ∀ x ∈ xs, p x = true → f x = ok (g x)) (hl : xs.length ≤ sizeLine) : compL t f xs = ok ((xs.filter p).map g) := by
  have : ∀ ys : List α, (∀ x ∈ ys, t x = ok (p x)) → (∀ x ∈ ys, p x = true → f x = ok (g x)) → compG t f ys = ok ((ys.filter p).map g) := by
    intro ys
    induction ys with
    | nil => intro _ _; rfl
    | cons y ys ih =>
      intro ht h
      show (noX (t y)).bind _ = _
      rw [ht y List.mem_cons_self, noX_ok, bind_ok, ih (fun x hx => ht x (List.mem_cons_of_mem _ hx)) fun x hx => h x (List.mem_cons_of_mem _ hx)]
      by_cases e : p y = true
      · rw [if_pos e, h y List.mem_cons_self e, noX_ok, bind_ok, bind_ok, List.filter_cons_of_pos e]
        rfl
      · rw [if_neg e, List.filter_cons_of_neg e]
  unfold compL
  rw [this xs ht h, bind_ok]
  refine grd_pos ?_ _
  rw [List.length_map]
  exact Nat.le_trans (List.length_filter_le _ _) hl
end
/-! ### numbers -/
theorem log2_le {x A : Nat} (h : x ≤ A) : x.log2 ≤ A.log2 := by
  by_cases hx : x = 0
  · subst hx; exact Nat.zero_le _
  · have hA : A ≠ 0 := by omega
    have h1 : A < 2 ^ (A.log2 + 1) := (Nat.log2_lt hA).mp (Nat.lt_succ_self _)
    have h2 : x.log2 < A.log2 + 1 := (Nat.log2_lt hx).mpr (by omega)
    omega
theorem pmul_le {x y : Int} {A B : Nat} (hx : x.natAbs ≤ A) (hy : y.natAbs ≤ B) (h : A.log2 + B.log2 < 1000000 := by decide) : pmul x y = ok (x * y) := by
  refine grd_pos (.inr ?_) _
  have h1 := log2_le hx
  have h2 := log2_le hy
  omega
theorem pmul_left {x y : Int} (hx : x.natAbs < 2 ^ 64) : pmul x y = ok (x * y) := grd_pos (.inl (.inl hx)) _
theorem pmul_right {x y : Int} (hy : y.natAbs < 2 ^ 64) : pmul x y = ok (x * y) := grd_pos (.inl (.inr hy)) _
theorem pmod_ok {x y : Int} (h : y ≠ 0) : pmod x y = ok (x.fmod y) := grd_pos h _
theorem pmod_pos {x y : Int} (h : 0 < y) : pmod x y = ok (x % y) := by rw [pmod_ok (by omega), Int.fmod_eq_emod_of_nonneg _ (by omega)]
theorem pdiv_ok {x y : Int} (h : y ≠ 0) (h2 : y.natAbs.log2 < 9000) : pdiv x y = ok (x.fdiv y) := grd_pos ⟨h, h2⟩ _
theorem pdiv_le {x y : Int} {A : Nat} (h : y ≠ 0) (h2 : y.natAbs ≤ A) (h3 : A.log2 < 9000 := by decide) : pdiv x y = ok (x.fdiv y) := pdiv_ok h (Nat.lt_of_le_of_lt (log2_le h2) h3)
theorem pdiv_pos {x y : Int} {A : Nat} (h : 0 < y) (h2 : y.natAbs ≤ A) (h3 : A.log2 < 9000 := by decide) : pdiv x y = ok (x / y) := by rw [pdiv_le (by omega) h2 h3, Int.fdiv_eq_ediv_of_nonneg _ (by omega)]
/-! ### lists -/
section
variable {α : Type}
theorem pget_nat {xs : List α} {i : Nat} (h : i < xs.length) : pget xs (i : Int) = ok xs[i] := by
  unfold pget
  rw [atI_nat (List.getElem?_eq_getElem h)]
theorem pget_some {xs : List α} {i : Nat} {x : α} (h : xs[i]? = some x) : pget xs (i : Int) = ok x := by
  unfold pget
  rw [atI_nat h]
theorem papp_ok {xs : List α} {x : α} (h : xs.length < 16777216) : papp xs x = ok (xs ++ [x]) := grd_pos (by rw [sizeLine_eq]; exact h) _
theorem pcat_ok {xs ys : List α} (h : xs.length + ys.length ≤ 16777216) : pcat xs ys = ok (xs ++ ys) := grd_pos (by rw [sizeLine_eq]; exact h) _
theorem prep_ok {x : α} {k : Nat} (h : k ≤ 16777216) : prep [x] (k : Int) = ok (List.replicate k x) := by
  have e : (List.replicate k [x]).flatten = List.replicate k x := by
    induction k with
    | zero => rfl
    | succ k ih => rw [List.replicate_succ, List.flatten_cons, ih (by omega), List.replicate_succ]; rfl
  unfold prep
  rw [grd_pos, Int.toNat_natCast, e]
  rw [Int.toNat_natCast, sizeLine_eq]
  refine ⟨by omega, by omega, ?_⟩
  simp only [List.length_cons, List.length_nil]
  omega
theorem cutL_from {xs : List α} (n : Nat) (h : n ≤ xs.length) : cutL xs (some (n : Int)) none = xs.drop n := by
  unfold cutL
  rw [show HT.sIx xs.length 0 (some (n : Int)) = min n xs.length from HT.sIx_nat xs.length 0 n, HT.sIx_none, Nat.min_eq_left h]
  exact List.take_of_length_le (by rw [List.length_drop]; omega)
theorem sizeLineE : sizeLine = 16777216 := sizeLine_eq
end
theorem range_get {n i : Nat} {x : Int} (h : (rangeL 0 n)[i]? = some x) : x = (i : Int) ∧ i < n := by
  rw [rangeL_get] at h
  by_cases e : i < n
  · rw [if_pos e] at h
    have := Option.some.inj h
    exact ⟨by omega, e⟩
  · rw [if_neg e] at h; cases h

/-! ### the draws that all laws share -/
noncomputable def m_mixed (cell_here1 : Int) (k2 : Int) (prime3 : Int) : M Int :=
  (M.bind (M.bind (M.bind (M.bind (M.bind (M.bind (pmul (7 * k2) k2) fun u5 => ok (cell_here1 + u5)) fun u6 => ok (u6 + (13 * k2))) fun u7 => ok (u7 + 5)) fun u8 => ok (u8 * 48271)) fun u9 => ok (u9 % 2147483647)) fun far_here4 => (M.bind (M.bind (pmul far_here4 far_here4) fun u11 => ok (u11 % 2147483629)) fun far_here10 => (pmod (far_here10 * 39373) prime3)))
noncomputable def m_draws (cell_here1 : Int) (widths2 : (List Int)) (prime3 : Int) : M (List Int) :=
  (M.bind (ok 0) fun left4 => (M.bind (M.bind (ok (decide (1000000000000000000 ≤ cell_here1))) fun z5 => if z5 = true then (M.bind (ok (cell_here1 - 1000000000000000000)) fun left6 => ok (left6)) else ok (left4)) fun left7 => (M.bind (ok ([] : List Int)) fun found8 => (M.bind (M.bind (prangeI (List.length widths2 : Int)) fun xs => loopM (fun (s9 : Int × (List Int)) k10 => (M.bind (ok (decide (1 < s9.1))) fun z11 => if z11 = true then (M.bind (M.bind (M.bind (pget widths2 k10) fun u12 => (pmod s9.1 u12)) fun u13 => (papp s9.2 u13)) fun found14 => (M.bind (M.bind (pget widths2 k10) fun u16 => (pdiv s9.1 u16)) fun left15 => ok (left15, found14))) else (M.bind (M.bind (M.bind (m_mixed cell_here1 k10 prime3) fun u17 => M.bind (pget widths2 k10) fun u18 => (pmod u17 u18)) fun u19 => (papp s9.2 u19)) fun found20 => ok (s9.1, found20)))) (left7, found8) xs) fun s21 => ok s21.2))))
noncomputable def m_far (cell_here1 : Int) (parts2 : Int) (most3 : Int) (prime4 : Int) : M Int :=
  (M.bind (M.bind (M.bind (prep [100000000] parts2) fun u6 => (pcat [6] u6)) fun u7 => (m_draws cell_here1 u7 prime4)) fun found5 => (M.bind (ok 0) fun far_here8 => (M.bind (M.bind (ok (cutL found5 (some 1) none)) fun xs => loopM (fun (far_here9 : Int) part10 => (M.bind (ok ((far_here9 * 100000000) + part10)) fun far_here11 => ok (far_here11))) (far_here8) xs) fun far_here12 => (M.bind (M.bind (pget found5 0) fun u13 => ok (decide (u13 = 0))) fun z14 => if z14 = true then (ok 0) else (M.bind (M.bind (pget found5 0) fun u15 => ok (decide (u15 = 1))) fun z16 => if z16 = true then (ok ((far_here12 % 41) - 20)) else (M.bind (pmod far_here12 ((2 * most3) + 1)) fun u17 => ok (u17 - most3)))))))
noncomputable def m_cell (script1 : (List Int)) (k2 : Int) : M Int :=
  (M.bind (ok (decide ((List.length script1 : Int) = 0))) fun z3 => if z3 = true then (ok (7919 * (k2 + 1))) else (M.bind (ok (decide (k2 < (List.length script1 : Int)))) fun z4 => if z4 = true then (pget script1 k2) else (M.bind (M.bind (pmod k2 (List.length script1 : Int)) fun u5 => (pget script1 u5)) fun u6 => ok (u6 + (104729 * k2)))))
theorem mixed_ok (cell : Int) {k prime : Int} (h0 : 0 ≤ k) (h1 : k ≤ 1000000) (hp : 0 < prime) : ∃ v, m_mixed cell k prime = ok v ∧ 0 ≤ v ∧ v < prime := by
  unfold m_mixed
  rw [pmul_right (show k.natAbs < 2 ^ 64 by omega)]
  simp only [bind_okS]
  generalize hf : (cell + 7 * k * k + 13 * k + 5) * 48271 % 2147483647 = f
  have h2 : 0 ≤ f := by rw [← hf]; exact Int.emod_nonneg _ (by decide)
  have h3 : f < 2147483647 := by rw [← hf]; exact Int.emod_lt_of_pos _ (by decide)
  rw [pmul_left (show f.natAbs < 2 ^ 64 by omega), bind_okS, bind_okS, pmod_pos hp]
  exact ⟨_, rfl, Int.emod_nonneg _ (by omega), Int.emod_lt_of_pos _ hp⟩
/-- the draws: as many as widths, each from 0 on and below its width -/
def Drawn (ws rs : List Int) : Prop := rs.length = ws.length ∧ ∀ (i : Nat) (w r : Int), ws[i]? = some w → rs[i]? = some r → 0 ≤ r ∧ r < w
def Widths (ws : List Int) : Prop := ws.length ≤ 100000 ∧ ∀ w ∈ ws, 0 < w ∧ w.natAbs.log2 < 9000
theorem Drawn.snoc {ws rs : List Int} {i : Nat} {w r : Int} (hl : rs.length = i) (hw : ws[i]? = some w) (h0 : 0 ≤ r) (h1 : r < w) (h : ∀ (j : Nat) (w r : Int), ws[j]? = some w → rs[j]? = some r → 0 ≤ r ∧ r < w) :
    ∀ (j : Nat) (w r' : Int), ws[j]? = some w → (rs ++ [r])[j]? = some r' → 0 ≤ r' ∧ r' < w := by
  intro j w' r' e1 e2
  by_cases hj : j < rs.length
  · rw [List.getElem?_append_left hj] at e2; exact h j w' r' e1 e2
  · rw [List.getElem?_append_right (by omega)] at e2
    by_cases hz : j - rs.length = 0
    · rw [hz] at e2
      have e3 : r = r' := by simpa using e2
      have hji : j = i := by omega
      subst hji
      rw [hw] at e1
      have e4 : w = w' := Option.some.inj e1
      subst e3; subst e4
      exact ⟨h0, h1⟩
    · have : j - rs.length = (j - rs.length - 1) + 1 := by omega
      rw [this] at e2
      simp at e2
theorem draws_ok (cell : Int) {ws : List Int} {prime : Int} (hw : Widths ws) (hp : 0 < prime) : ∃ rs, m_draws cell ws prime = ok rs ∧ Drawn ws rs := by
  unfold m_draws
  have hl := hw.1
  simp only [bind_okS, prangeI_nat (show ws.length < 2 ^ 62 by omega)]
  have hleft : ∃ l, (if decide (1000000000000000000 ≤ cell) = true then ok (cell - 1000000000000000000) else ok 0 : M Int) = ok l := by
    by_cases h : 1000000000000000000 ≤ cell
    · rw [if_pos (decide_eq_true h)]; exact ⟨_, rfl⟩
    · rw [if_neg (by simpa using h)]; exact ⟨_, rfl⟩
  obtain ⟨l0, e0⟩ := hleft
  rw [e0, bind_ok]
  have hs : ∀ (i : Nat) (c : Int × List Int) (x : Int), (rangeL 0 ws.length)[i]? = some x → (c.2.length = i ∧ ∀ (j : Nat) (w r : Int), ws[j]? = some w → c.2[j]? = some r → 0 ≤ r ∧ r < w) → ∃ c', (fun (s9 : Int × (List Int)) k10 => if decide (1 < s9.1) = true then (((pget ws k10).bind fun u12 => pmod s9.1 u12).bind fun u13 => papp s9.2 u13).bind fun found14 => ((pget ws k10).bind fun u16 => pdiv s9.1 u16).bind fun left15 => ok (left15, found14)
      else (((m_mixed cell k10 prime).bind fun u17 => (pget ws k10).bind fun u18 => pmod u17 u18).bind fun u19 => papp s9.2 u19).bind fun found20 => ok (s9.1, found20)) c x = ok c' ∧ (c'.2.length = i + 1 ∧ ∀ (j : Nat) (w r : Int), ws[j]? = some w → c'.2[j]? = some r → 0 ≤ r ∧ r < w) := by
    rintro i ⟨l, rs⟩ x hx ⟨h1, h2⟩
    obtain ⟨rfl, hi⟩ := range_get hx
    have h1 : rs.length = i := h1
    have hwi : ws[i]? = some ws[i] := List.getElem?_eq_getElem hi
    obtain ⟨w0, w1⟩ := hw.2 _ (List.getElem_mem hi)
    have happ : ∀ r, papp rs r = ok (rs ++ [r]) := fun r => papp_ok (by omega)
    dsimp only
    by_cases hl1 : 1 < l
    · rw [if_pos (decide_eq_true hl1), pget_nat hi, bind_ok, pmod_pos w0, bind_ok, happ, bind_ok, bind_ok, pdiv_ok (by omega) w1, bind_ok]
      exact ⟨_, rfl, by simp [h1], Drawn.snoc h1 hwi (Int.emod_nonneg _ (by omega)) (Int.emod_lt_of_pos _ w0) h2⟩
    · obtain ⟨v, e, v0, v1⟩ := mixed_ok cell (k := (i : Int)) (by omega) (by omega) hp
      rw [if_neg (by simpa using hl1), e, bind_ok, pget_nat hi, bind_ok, pmod_pos w0, bind_ok, happ, bind_ok]
      exact ⟨_, rfl, by simp [h1], Drawn.snoc h1 hwi (Int.emod_nonneg _ (by omega)) (Int.emod_lt_of_pos _ w0) h2⟩
  obtain ⟨c, e1, p1⟩ := loopM_inv (fun i (c : Int × List Int) => c.2.length = i ∧ ∀ (j : Nat) (w r : Int), ws[j]? = some w → c.2[j]? = some r → 0 ≤ r ∧ r < w) (c := (l0, [])) ⟨rfl, fun j w r _ z => by simp at z⟩ hs
  rw [e1, bind_ok]
  rw [rangeL_len] at p1
  exact ⟨c.2, rfl, p1.1, p1.2⟩
theorem Drawn.at {ws rs : List Int} (h : Drawn ws rs) {i : Nat} {w : Int} (hw : ws[i]? = some w) : ∃ r, rs[i]? = some r ∧ 0 ≤ r ∧ r < w := by
  obtain ⟨hi, e⟩ := List.getElem?_eq_some_iff.mp hw
  have hi' : i < rs.length := by rw [h.1]; exact hi
  exact ⟨rs[i], List.getElem?_eq_getElem hi', h.2 i w rs[i] hw (List.getElem?_eq_getElem hi')⟩
theorem Widths.of {ws : List Int} (h : (ws.length ≤ 100000 ∧ ws.all fun w => decide (0 < w) && decide (w.natAbs.log2 < 9000)) := by decide +kernel) : Widths ws :=
  ⟨h.1, fun w hw => by
    have := List.all_eq_true.mp h.2 w hw
    simpa using this⟩
theorem far_widths (k : Nat) (h : k ≤ 1000) : Widths ([6] ++ List.replicate k 100000000) := by
  refine ⟨by simp; omega, fun w hw => ?_⟩
  rcases List.mem_append.mp hw with z | z
  · have : w = 6 := by simpa using z
    subst this; decide
  · have := List.eq_of_mem_replicate z
    subst this; decide
theorem far_ok (cell : Int) {parts : Nat} {most prime : Int} (hk : parts ≤ 1000) (hm : 20 ≤ most) (hp : 0 < prime) : ∃ v, m_far cell (parts : Int) most prime = ok v ∧ -most ≤ v ∧ v ≤ most := by
  unfold m_far
  rw [prep_ok (by omega), bind_ok, pcat_ok (by simp; omega), bind_ok]
  obtain ⟨rs, e, hd⟩ := draws_ok cell (far_widths parts hk) hp
  rw [e, bind_ok, bind_ok, bind_ok]
  have hf : ∀ (xs : List Int) (c : Int), loopM (fun (far_here9 : Int) part10 => (M.bind (ok ((far_here9 * 100000000) + part10)) fun far_here11 => ok (far_here11))) c xs = ok (xs.foldl (fun a b => a * 100000000 + b) c) := fun xs c =>
    (loopM_fold (g := fun a b => a * 100000000 + b) (fun _ => True) trivial fun c x _ _ => ⟨rfl, trivial⟩).1
  rw [hf, bind_ok]
  obtain ⟨r, hr, r0, r1⟩ := hd.at (i := 0) (w := 6) rfl
  rw [show pget rs 0 = ok r from pget_some (i := 0) hr]
  simp only [bind_okS]
  by_cases h0 : r = 0
  · rw [if_pos (decide_eq_true h0)]
    exact ⟨0, rfl, by omega, by omega⟩
  · rw [if_neg (by simpa using h0)]
    by_cases h1 : r = 1
    · rw [if_pos (decide_eq_true h1)]
      refine ⟨_, rfl, ?_, ?_⟩ <;> omega
    · rw [if_neg (by simpa using h1), pmod_pos (by omega), bind_ok]
      generalize List.foldl (fun a b => a * 100000000 + b) 0 (cutL rs (some 1) none) = z
      have := Int.emod_nonneg z (show 2 * most + 1 ≠ 0 by omega)
      have := Int.emod_lt_of_pos z (show 0 < 2 * most + 1 by omega)
      exact ⟨_, rfl, by omega, by omega⟩
theorem cell_ok {script : List Int} {k : Int} (hl : script.length ≤ 63) (h0 : 0 ≤ k) : ∃ v, m_cell script k = ok v := by
  unfold m_cell
  simp only [bind_okS]
  by_cases h : (script.length : Int) = 0
  · rw [if_pos (decide_eq_true h)]; exact ⟨_, rfl⟩
  · rw [if_neg (by simpa using h)]
    by_cases h2 : k < script.length
    · rw [if_pos (decide_eq_true h2)]
      obtain ⟨n, rfl⟩ := Int.eq_ofNat_of_zero_le h0
      have : n < script.length := by omega
      exact ⟨_, pget_nat this⟩
    · rw [if_neg (by simpa using h2), pmod_pos (by omega), bind_ok]
      have hn := Int.emod_nonneg k (show (script.length : Int) ≠ 0 from h)
      have hlt := Int.emod_lt_of_pos k (show (0 : Int) < script.length by omega)
      obtain ⟨n, e⟩ := Int.eq_ofNat_of_zero_le hn
      rw [e] at hlt ⊢
      have : n < script.length := by omega
      rw [pget_nat this, bind_ok]
      exact ⟨_, rfl⟩
end T

set_option maxRecDepth 100000
namespace T
open PySem PySem.Spec PyProof.Rows L2
theorem mapC_ex {α β : Type} {f : α → M β} {P : α → β → Prop} {xs : List α} (h : ∀ x ∈ xs, ∃ y, f x = ok y ∧ P x y) (hl : xs.length ≤ 16777216) :
    ∃ ys, mapC f xs = ok ys ∧ ys.length = xs.length ∧ (∀ (i : Nat) x y, xs[i]? = some x → ys[i]? = some y → P x y) ∧ ∀ y ∈ ys, ∃ x ∈ xs, P x y := by
  have : ∀ ys : List α, (∀ x ∈ ys, ∃ y, f x = ok y ∧ P x y) → ∃ zs, compG (fun _ => ok true) f ys = ok zs ∧ zs.length = ys.length ∧ (∀ (i : Nat) x y, ys[i]? = some x → zs[i]? = some y → P x y) ∧ ∀ y ∈ zs, ∃ x ∈ ys, P x y := by
    intro ys
    induction ys with
    | nil => intro _; exact ⟨[], rfl, rfl, fun i x y h => by simp at h, fun y hy => nomatch hy⟩
    | cons a ys ih =>
      intro h
      obtain ⟨zs, e, l, g, m⟩ := ih fun x hx => h x (List.mem_cons_of_mem _ hx)
      obtain ⟨b, eb, pb⟩ := h a List.mem_cons_self
      refine ⟨b :: zs, ?_, by simp [l], fun i x y hx hy => ?_, fun y hy => ?_⟩
      · show (noX (ok true)).bind _ = _
        rw [noX_ok, bind_ok, if_pos rfl, eb, noX_ok, bind_ok, e]
        rfl
      · cases i with
        | zero => simp at hx hy; subst hx; subst hy; exact pb
        | succ i => exact g i x y (by simpa using hx) (by simpa using hy)
      · rcases List.mem_cons.mp hy with z | z
        · subst z; exact ⟨a, List.mem_cons_self, pb⟩
        · obtain ⟨x, hx, p⟩ := m y z
          exact ⟨x, List.mem_cons_of_mem _ hx, p⟩
  obtain ⟨ys, e, l, g, m⟩ := this xs h
  refine ⟨ys, ?_, l, g, m⟩
  unfold mapC compL
  rw [e, bind_ok]
  exact grd_pos (by rw [sizeLine_eq, l]; exact hl) _
theorem pset_nat {α : Type} {xs : List α} {i : Nat} {x : α} (h : i < xs.length) : pset xs (i : Int) x = ok (xs.set i x) := by
  unfold pset
  have e : ixN xs.length (i : Int) = some i := by
    unfold ixN
    rw [if_pos (by omega), if_pos (by omega)]; simp
  rw [e]
/-! ### small numbers -/
def Sm (k : Nat) (x : Int) : Prop := x.natAbs.log2 ≤ k
theorem mul_sm {x y : Int} {j k : Nat} (hx : Sm j x) (hy : Sm k y) (h : j + k < 1000000) : pmul x y = ok (x * y) := grd_pos (.inr (by unfold Sm at hx hy; omega)) _
theorem log2_mul (a b : Nat) : (a * b).log2 ≤ a.log2 + b.log2 + 1 := by
  by_cases ha : a = 0
  · subst ha; rw [Nat.zero_mul]; exact Nat.zero_le _
  by_cases hb : b = 0
  · subst hb; rw [Nat.mul_zero]; exact Nat.zero_le _
  have h1 : a < 2 ^ (a.log2 + 1) := (Nat.log2_lt ha).mp (Nat.lt_succ_self _)
  have h2 : b < 2 ^ (b.log2 + 1) := (Nat.log2_lt hb).mp (Nat.lt_succ_self _)
  have h3 : a * b < 2 ^ (a.log2 + 1) * 2 ^ (b.log2 + 1) := Nat.mul_lt_mul'' h1 h2
  rw [← Nat.pow_add] at h3
  have hab : a * b ≠ 0 := Nat.mul_ne_zero ha hb
  have := (Nat.log2_lt hab).mpr h3
  omega
theorem log2_add (a b : Nat) : (a + b).log2 ≤ max a.log2 b.log2 + 1 := by
  by_cases ha : a = 0
  · subst ha; rw [Nat.zero_add]; omega
  by_cases hb : b = 0
  · subst hb; rw [Nat.add_zero]; omega
  have h1 : a < 2 ^ (a.log2 + 1) := (Nat.log2_lt ha).mp (Nat.lt_succ_self _)
  have h2 : b < 2 ^ (b.log2 + 1) := (Nat.log2_lt hb).mp (Nat.lt_succ_self _)
  have h4 : 2 ^ (a.log2 + 1) ≤ 2 ^ (max a.log2 b.log2 + 1) := Nat.pow_le_pow_right (by decide) (by omega)
  have h5 : 2 ^ (b.log2 + 1) ≤ 2 ^ (max a.log2 b.log2 + 1) := Nat.pow_le_pow_right (by decide) (by omega)
  have e : 2 ^ (max a.log2 b.log2 + 1 + 1) = 2 ^ (max a.log2 b.log2 + 1) * 2 := Nat.pow_succ _ _
  have : a + b < 2 ^ (max a.log2 b.log2 + 1 + 1) := by omega
  have := (Nat.log2_lt (show a + b ≠ 0 by omega)).mpr this
  omega
theorem Sm.mul {x y : Int} {j k : Nat} (hx : Sm j x) (hy : Sm k y) : Sm (j + k + 1) (x * y) := by
  unfold Sm at *
  rw [Int.natAbs_mul]
  have := log2_mul x.natAbs y.natAbs
  omega
theorem Sm.mono {x : Int} {j k : Nat} (hx : Sm j x) (h : j ≤ k) : Sm k x := Nat.le_trans hx h
theorem Sm.add {x y : Int} {j k : Nat} (hx : Sm j x) (hy : Sm k y) : Sm (max j k + 1) (x + y) := by
  unfold Sm at *
  have h1 := log2_add x.natAbs y.natAbs
  have h2 := log2_le (Int.natAbs_add_le x y)
  omega
theorem Sm.neg {x : Int} {j : Nat} (hx : Sm j x) : Sm j (-x) := by unfold Sm at *; rw [Int.natAbs_neg]; exact hx
theorem Sm.sub {x y : Int} {j k : Nat} (hx : Sm j x) (hy : Sm k y) : Sm (max j k + 1) (x - y) := by rw [Int.sub_eq_add_neg]; exact hx.add hy.neg
theorem Sm.of {x : Int} {A k : Nat} (h : x.natAbs ≤ A) (hk : A.log2 ≤ k := by decide +kernel) : Sm k x := Nat.le_trans (log2_le h) hk
end T

set_option maxRecDepth 100000
namespace T
open PySem PySem.Spec PyProof.Rows L2
/-! ### rows as polynomials -/
def co (xs : List Int) (t : Nat) : Int := (xs[t]?).getD 0
theorem co_nil (t : Nat) : co [] t = 0 := rfl
theorem co_zero (a : Int) (xs : List Int) : co (a :: xs) 0 = a := rfl
theorem co_succ (a : Int) (xs : List Int) (t : Nat) : co (a :: xs) (t + 1) = co xs t := by unfold co; simp
theorem co_get {xs : List Int} {t : Nat} (h : t < xs.length) : co xs t = xs[t] := by unfold co; simp [h]
theorem co_out {xs : List Int} {t : Nat} (h : xs.length ≤ t) : co xs t = 0 := by unfold co; simp [h]
theorem co_some {xs : List Int} {t : Nat} {x : Int} (h : xs[t]? = some x) : co xs t = x := by unfold co; rw [h]; rfl
theorem pget_co {xs : List Int} {t : Nat} (h : t < xs.length) : pget xs (t : Int) = ok (co xs t) := by rw [pget_nat h, co_get h]
theorem co_mem {xs : List Int} {t : Nat} (h : t < xs.length) : co xs t ∈ xs := by rw [co_get h]; exact List.getElem_mem h
theorem co_ext {xs ys : List Int} (hl : xs.length = ys.length) (h : ∀ t, co xs t = co ys t) : xs = ys := by
  apply List.ext_getElem hl
  intro i h1 h2
  have := h i
  rwa [co_get h1, co_get h2] at this
theorem co_set {xs : List Int} {i : Nat} {x : Int} (h : i < xs.length) (t : Nat) : co (xs.set i x) t = if t = i then x else co xs t := by
  unfold co
  by_cases e : t = i
  · subst e; rw [if_pos rfl, List.getElem?_set_self h]; rfl
  · rw [if_neg e, List.getElem?_set_ne (fun z => e z.symm)]
theorem co_append_l {xs ys : List Int} {t : Nat} (h : t < xs.length) : co (xs ++ ys) t = co xs t := by unfold co; rw [List.getElem?_append_left h]
theorem co_append_r {xs ys : List Int} {t : Nat} (h : xs.length ≤ t) : co (xs ++ ys) t = co ys (t - xs.length) := by unfold co; rw [List.getElem?_append_right h]
theorem co_rep0 (n t : Nat) : co (List.replicate n 0) t = 0 := by
  unfold co
  rw [List.getElem?_replicate]
  split <;> rfl
theorem co_app0 (xs : List Int) (n t : Nat) : co (xs ++ List.replicate n 0) t = co xs t := by
  by_cases h : t < xs.length
  · exact co_append_l h
  · rw [co_append_r (by omega), co_rep0, co_out (by omega)]
theorem co_take (xs : List Int) (m t : Nat) : co (xs.take m) t = if t < m then co xs t else 0 := by
  unfold co
  rw [List.getElem?_take]
  split <;> rfl
theorem co_drop (xs : List Int) (m t : Nat) : co (xs.drop m) t = co xs (m + t) := by unfold co; rw [List.getElem?_drop]
theorem co_map (xs : List Int) (f : Int → Int) (h0 : f 0 = 0) (t : Nat) : co (xs.map f) t = f (co xs t) := by
  unfold co
  rw [List.getElem?_map]
  cases xs[t]? with
  | none => exact h0.symm
  | some x => rfl
/-- the value at z -/
def ev : List Int → Int → Int
  | [], _ => 0
  | a :: t, z => a + z * ev t z
theorem ev_zero (z : Int) : ∀ {xs : List Int}, (∀ t, co xs t = 0) → ev xs z = 0
  | [], _ => rfl
  | a :: xs, h => by
    have h0 : a = 0 := h 0
    have h1 : ev xs z = 0 := ev_zero z fun t => by rw [← co_succ a]; exact h (t + 1)
    show a + z * ev xs z = 0
    rw [h0, h1]; simp
theorem ev_co (z : Int) : ∀ {xs ys : List Int}, (∀ t, co xs t = co ys t) → ev xs z = ev ys z
  | [], ys, h => (ev_zero z fun t => (h t).symm).symm
  | xs, [], h => ev_zero z h
  | a :: xs, b :: ys, h => by
    have h0 : a = b := h 0
    have h1 : ev xs z = ev ys z := ev_co z fun t => by rw [← co_succ a, ← co_succ b]; exact h (t + 1)
    show a + z * ev xs z = b + z * ev ys z
    rw [h0, h1]
/-! noughts at the end -/
def cutP : List Int → List Int
  | [] => []
  | a :: t => match cutP t with
    | [] => if a = 0 then [] else [a]
    | b :: l => a :: b :: l
theorem cutP_co : ∀ (xs : List Int) (t : Nat), co (cutP xs) t = co xs t
  | [], t => rfl
  | a :: xs, t => by
    have ih := cutP_co xs
    unfold cutP
    cases e : cutP xs with
    | nil =>
      rw [e] at ih
      by_cases h : a = 0
      · simp only [h, if_true]
        cases t with
        | zero => rfl
        | succ t => rw [co_succ, ← ih t]; rfl
      · simp only [h, if_false]
        cases t with
        | zero => rfl
        | succ t => rw [co_succ, co_succ, ← ih t]
    | cons b l =>
      rw [e] at ih
      cases t with
      | zero => rfl
      | succ t => rw [co_succ, co_succ]; exact ih t
def Cut (xs : List Int) : Prop := xs = [] ∨ ∃ a l, xs = l ++ [a] ∧ a ≠ 0
theorem cutP_cut : ∀ xs : List Int, Cut (cutP xs)
  | [] => .inl rfl
  | a :: xs => by
    have ih := cutP_cut xs
    unfold cutP
    cases e : cutP xs with
    | nil =>
      by_cases h : a = 0
      · simp only [h, if_true]; exact .inl rfl
      · simp only [h, if_false]; exact .inr ⟨a, [], rfl, h⟩
    | cons b l =>
      rw [e] at ih
      rcases ih with z | ⟨x, m, h1, h2⟩
      · cases z
      · exact .inr ⟨x, a :: m, by rw [List.cons_append, ← h1], h2⟩
theorem Cut.last {xs : List Int} (h : Cut xs) (hn : xs ≠ []) : co xs (xs.length - 1) ≠ 0 := by
  rcases h with z | ⟨a, l, rfl, ha⟩
  · exact absurd z hn
  · rw [List.length_append, co_append_r (by simp)]
    simp
    exact ha
theorem Cut.eq {xs ys : List Int} (h1 : Cut xs) (h2 : Cut ys) (h : ∀ t, co xs t = co ys t) : xs = ys := by
  have key : ∀ {xs ys : List Int}, Cut xs → (∀ t, co xs t = co ys t) → xs.length ≤ ys.length := fun {xs ys} h1 h => by
    by_cases hn : xs = []
    · subst hn; exact Nat.zero_le _
    · have := h1.last hn
      rw [h] at this
      have hp : 0 < xs.length := List.length_pos_iff.mpr hn
      by_cases hl : xs.length ≤ ys.length
      · exact hl
      · exact absurd (co_out (by omega)) this
  exact co_ext (Nat.le_antisymm (key h1 h) (key h2 fun t => (h t).symm)) h
theorem cutP_eq {xs ys : List Int} (h2 : Cut ys) (h : ∀ t, co xs t = co ys t) : cutP xs = ys := Cut.eq (cutP_cut xs) h2 fun t => (cutP_co xs t).trans (h t)
theorem cutP_of {xs : List Int} (h : Cut xs) : cutP xs = xs := cutP_eq h fun _ => rfl
theorem cutP_congr {xs ys : List Int} (h : ∀ t, co xs t = co ys t) : cutP xs = cutP ys := cutP_eq (cutP_cut ys) fun t => (h t).trans (cutP_co ys t).symm
theorem cutP_len : ∀ xs : List Int, (cutP xs).length ≤ xs.length := fun xs => by
  by_cases hn : cutP xs = []
  · rw [hn]; exact Nat.zero_le _
  · have := (cutP_cut xs).last hn
    rw [cutP_co] at this
    have hp : 0 < (cutP xs).length := List.length_pos_iff.mpr hn
    by_cases hl : (cutP xs).length ≤ xs.length
    · exact hl
    · exact absurd (co_out (by omega)) this
theorem cutP_ev (xs : List Int) (z : Int) : ev (cutP xs) z = ev xs z := ev_co z (cutP_co xs)
theorem cutP_mem {xs : List Int} {x : Int} (h : x ∈ cutP xs) : x ∈ xs := by
  obtain ⟨i, hi⟩ := List.getElem?_of_mem h
  have h1 : i < (cutP xs).length := (List.getElem?_eq_some_iff.mp hi).1
  have := cutP_co xs i
  rw [co_some hi] at this
  rw [this]
  exact co_mem (Nat.lt_of_lt_of_le h1 (cutP_len xs))
theorem cutP_take {xs : List Int} {m : Nat} (hm : m ≤ xs.length) (h0 : ∀ t, m ≤ t → co xs t = 0) (h1 : m = 0 ∨ co xs (m - 1) ≠ 0) : cutP xs = xs.take m := by
  refine cutP_eq ?_ fun t => ?_
  · rcases h1 with rfl | h1
    · exact .inl (by simp)
    · by_cases hz : m = 0
      · subst hz; exact .inl (by simp)
      · refine .inr ⟨co xs (m - 1), xs.take (m - 1), ?_, h1⟩
        have e : xs.take m = xs.take (m - 1) ++ [xs[m - 1]] := by
          have := List.take_succ_eq_append_getElem (l := xs) (i := m - 1) (by omega)
          rwa [show m - 1 + 1 = m by omega] at this
        rw [e, co_get (by omega)]
  · rw [co_take]
    split
    · rfl
    · exact h0 t (by omega)
theorem cutL_to {α : Type} {xs : List α} {m : Nat} (h : m ≤ xs.length) : cutL xs none (some (m : Int)) = xs.take m := by
  unfold cutL
  rw [show HT.sIx xs.length xs.length (some (m : Int)) = min m xs.length from HT.sIx_nat xs.length xs.length m, HT.sIx_none, Nat.min_eq_left h, List.drop_zero, Nat.sub_zero]
noncomputable def m_cut (row1 : (List Int)) : M (List Int) :=
  (M.bind (ok (List.length row1 : Int)) fun many2 => (M.bind (whileM (fun (many3 : Int) => (M.bind (ok (decide (0 < many3))) fun z5 => if z5 = true then (M.bind (pget row1 (many3 - 1)) fun u4 => ok (decide (u4 = 0))) else ok false)) (fun (many3 : Int) => (M.bind (ok (many3 - 1)) fun many6 => ok (many6))) (many2)) fun many7 => (ok (cutL row1 none (some many7)))))
theorem cut_ok (xs : List Int) : m_cut xs = ok (cutP xs) := by
  unfold m_cut
  rw [bind_okS]
  obtain ⟨c, e, ⟨m, rfl, hm, h0⟩, ht⟩ := whileM_inv (t := fun (many3 : Int) => (M.bind (ok (decide (0 < many3))) fun z5 => if z5 = true then (M.bind (pget xs (many3 - 1)) fun u4 => ok (decide (u4 = 0))) else ok false)) (b := fun (many3 : Int) => (M.bind (ok (many3 - 1)) fun many6 => ok (many6)))
    (fun c => ∃ m : Nat, c = (m : Int) ∧ m ≤ xs.length ∧ ∀ t, m ≤ t → co xs t = 0) (fun c => c.toNat) (fun c ⟨m, hc, hm, h0⟩ => by
      subst hc
      rw [bind_okS]
      by_cases hz : m = 0
      · subst hz
        exact .inl (if_neg (by simp))
      · rw [if_pos (decide_eq_true (by omega)), show (m : Int) - 1 = ((m - 1 : Nat) : Int) by omega, pget_co (by omega), bind_ok]
        by_cases h1 : co xs (m - 1) = 0
        · refine .inr ⟨by rw [decide_eq_true h1], _, rfl, ⟨m - 1, rfl, by omega, fun t ht => ?_⟩, by omega⟩
          by_cases e : t = m - 1
          · rw [e]; exact h1
          · exact h0 t (by omega)
        · exact .inl (by rw [decide_eq_false h1])) (c := (xs.length : Int)) ⟨xs.length, rfl, Nat.le_refl _, fun t ht => co_out ht⟩
  rw [e, bind_ok, cutL_to hm, cutP_take hm h0]
  by_cases hz : m = 0
  · exact .inl hz
  · right
    intro h1
    rw [bind_okS, if_pos (decide_eq_true (by omega)), show (m : Int) - 1 = ((m - 1 : Nat) : Int) by omega, pget_co (by omega), bind_ok, decide_eq_true h1] at ht
    cases ht
/-! sums -/
def addP : List Int → List Int → List Int
  | [], g => g
  | a :: f, [] => a :: f
  | a :: f, b :: g => (a + b) :: addP f g
theorem addP_co : ∀ (f g : List Int) (t : Nat), co (addP f g) t = co f t + co g t
  | [], g, t => by show co g t = _; rw [co_nil]; omega
  | a :: f, [], t => by show co (a :: f) t = _; rw [co_nil]; omega
  | a :: f, b :: g, 0 => rfl
  | a :: f, b :: g, t + 1 => by show co (_ :: addP f g) (t + 1) = _; rw [co_succ, co_succ, co_succ, addP_co]
theorem addP_ev (z : Int) : ∀ f g : List Int, ev (addP f g) z = ev f z + ev g z
  | [], g => by show ev g z = 0 + ev g z; omega
  | a :: f, [] => by show ev (a :: f) z = ev (a :: f) z + 0; omega
  | a :: f, b :: g => by
    show (a + b) + z * ev (addP f g) z = (a + z * ev f z) + (b + z * ev g z)
    rw [addP_ev z f g]; grind
theorem addP_len : ∀ f g : List Int, (addP f g).length = max f.length g.length
  | [], g => by show g.length = max 0 g.length; omega
  | a :: f, [] => by show (a :: f).length = max (f.length + 1) 0; simp
  | a :: f, b :: g => by show (addP f g).length + 1 = max (f.length + 1) (g.length + 1); rw [addP_len f g]; omega
def scaleP (c : Int) (f : List Int) : List Int := f.map (c * ·)
theorem scaleP_co (c : Int) (f : List Int) (t : Nat) : co (scaleP c f) t = c * co f t := co_map f (c * ·) (Int.mul_zero c) t
theorem scaleP_ev (c z : Int) : ∀ f : List Int, ev (scaleP c f) z = c * ev f z
  | [] => by show (0 : Int) = c * 0; omega
  | a :: f => by show c * a + z * ev (scaleP c f) z = c * (a + z * ev f z); rw [scaleP_ev c z f]; grind
/-! products -/
def mulP : List Int → List Int → List Int
  | [], _ => []
  | a :: f, g => addP (scaleP a g) (0 :: mulP f g)
theorem mulP_ev (z : Int) (g : List Int) : ∀ f : List Int, ev (mulP f g) z = ev f z * ev g z
  | [] => by show (0 : Int) = 0 * _; omega
  | a :: f => by
    show ev (addP (scaleP a g) (0 :: mulP f g)) z = (a + z * ev f z) * ev g z
    rw [addP_ev, scaleP_ev]
    show a * ev g z + (0 + z * ev (mulP f g) z) = _
    rw [mulP_ev z g f]; grind
theorem mulP_cons_zero (a : Int) (f g : List Int) : co (mulP (a :: f) g) 0 = a * co g 0 := by
  show co (addP (scaleP a g) (0 :: mulP f g)) 0 = _
  rw [addP_co, scaleP_co, co_zero]; omega
theorem mulP_cons_succ (a : Int) (f g : List Int) (t : Nat) : co (mulP (a :: f) g) (t + 1) = a * co g (t + 1) + co (mulP f g) t := by
  show co (addP (scaleP a g) (0 :: mulP f g)) (t + 1) = _
  rw [addP_co, scaleP_co, co_succ]
theorem mulP_snoc (x : Int) (g : List Int) : ∀ (f : List Int) (t : Nat), co (mulP (f ++ [x]) g) t = co (mulP f g) t + if f.length ≤ t then x * co g (t - f.length) else 0
  | [], 0 => by
    show co (mulP [x] g) 0 = 0 + _
    rw [mulP_cons_zero]; simp
  | [], t + 1 => by
    show co (mulP [x] g) (t + 1) = 0 + _
    rw [mulP_cons_succ]; simp [mulP, co_nil]
  | a :: f, 0 => by
    rw [List.cons_append, mulP_cons_zero, mulP_cons_zero]; simp
  | a :: f, t + 1 => by
    rw [List.cons_append, mulP_cons_succ, mulP_cons_succ, mulP_snoc x g f t, List.length_cons]
    have : (f.length + 1 ≤ t + 1) = (f.length ≤ t) := by rw [Nat.add_le_add_iff_right]
    simp only [this, Nat.add_sub_add_right]
    omega
theorem mulP_out (g : List Int) : ∀ (f : List Int) (t : Nat), f.length + g.length ≤ t + 1 → f = [] ∨ 0 < g.length → co (mulP f g) t = 0
  | [], t, _, _ => rfl
  | a :: f, 0, h, hg => by
    rcases hg with z | hg
    · cases z
    · rw [List.length_cons] at h; omega
  | a :: f, t + 1, h, hg => by
    rcases hg with z | hg
    · cases z
    · rw [List.length_cons] at h
      rw [mulP_cons_succ, co_out (by omega), mulP_out g f t (by omega) (.inr hg)]
      omega
theorem mulP_nil_r : ∀ (f : List Int) (t : Nat), co (mulP f []) t = 0
  | [], t => rfl
  | a :: f, 0 => by rw [mulP_cons_zero, co_nil]; omega
  | a :: f, t + 1 => by rw [mulP_cons_succ, co_nil, mulP_nil_r f t]; omega
/-- the place on top -/
theorem mulP_top (g : List Int) (hg : 0 < g.length) : ∀ (f : List Int), 0 < f.length → co (mulP f g) (f.length + g.length - 2) = co f (f.length - 1) * co g (g.length - 1)
  | [], h => nomatch h
  | [a], _ => by
    have e : [a].length + g.length - 2 = g.length - 1 := by simp; omega
    rw [e]
    show _ = a * _
    by_cases h : g.length - 1 = 0
    · rw [h, mulP_cons_zero]
    · obtain ⟨t, ht⟩ := Nat.exists_eq_succ_of_ne_zero h
      rw [ht, Nat.succ_eq_add_one, mulP_cons_succ]; simp [mulP, co_nil]
  | a :: b :: f, _ => by
    have ih := mulP_top g hg (b :: f) (by simp)
    have e : (a :: b :: f).length + g.length - 2 = ((b :: f).length + g.length - 2) + 1 := by simp only [List.length_cons]; omega
    have e2 : (a :: b :: f).length - 1 = ((b :: f).length - 1) + 1 := by simp only [List.length_cons]; omega
    rw [e, mulP_cons_succ, ih, e2, co_succ, co_out (show g.length ≤ (b :: f).length + g.length - 2 + 1 by simp only [List.length_cons]; omega)]
    omega
/-! Horner's loop -/
theorem horner_ok {xs : List Int} {z : Int} {f : Int → Int → M Int} {a m : Nat} (hx : ∀ x ∈ xs, Sm a x) (hz : Sm m z) (hl : (xs.length + 1) * (m + a + 2) + m < 1000000) (hf : ∀ v p, pmul v z = ok (v * z) → f v p = ok (v * z + p)) :
    loopM f 0 xs.reverse = ok (ev xs z) := by
  have e1 : ∀ ys : List Int, ys.reverse.foldl (fun v p => v * z + p) 0 = ev ys z := fun ys => by
    rw [List.foldl_reverse]
    induction ys with
    | nil => rfl
    | cons y ys ih =>
      show List.foldr (fun x y => y * z + x) 0 ys * z + y = y + z * ev ys z
      rw [ih]; grind
  have e2 : ∀ (ys : List Int) (v : Int) (k : Nat), (∀ y ∈ ys, Sm a y) → Sm k v → k + (ys.length + 1) * (m + a + 2) + m < 1000000 → loopM f v ys = ok (ys.foldl (fun v p => v * z + p) v) := by
    intro ys
    induction ys with
    | nil => intro v k _ _ _; rfl
    | cons y ys ih =>
      intro v k hy hv hk
      have hm : (List.length (y :: ys) + 1) * (m + a + 2) = (ys.length + 1) * (m + a + 2) + (m + a + 2) := by rw [List.length_cons, Nat.add_mul (ys.length + 1) 1, Nat.one_mul]
      rw [hm] at hk
      rw [loopM_cons, hf v y (mul_sm hv hz (by omega)), bind_ok]
      exact ih (v * z + y) (k + (m + a + 2)) (fun x h => hy x (List.mem_cons_of_mem _ h)) (((hv.mul hz).add (hy y List.mem_cons_self)).mono (by omega)) (by omega)
  rw [← e1]
  exact e2 xs.reverse 0 0 (fun y hy => hx y (List.mem_reverse.mp hy)) (by unfold Sm; decide) (by rw [List.length_reverse]; omega)
/-! places added into a row -/
theorem addInto {N i n : Nat} {step : List Int → Int → M (List Int)} {s : Nat → Int} {L : List Int} (hL : L.length = N) (hi : i + n ≤ N)
    (hs : ∀ (c : List Int) (j : Nat), c.length = N → j < n → step c (j : Int) = ok (c.set (i + j) (co c (i + j) + s j))) :
    ∃ L', loopM step L (rangeL 0 n) = ok L' ∧ L'.length = N ∧ ∀ t, co L' t = co L t + if i ≤ t ∧ t < i + n then s (t - i) else 0 := by
  obtain ⟨c, e, h1, h2⟩ := loopM_inv (f := step) (fun j (c : List Int) => c.length = N ∧ ∀ t, co c t = co L t + if i ≤ t ∧ t < i + j then s (t - i) else 0) (xs := rangeL 0 n) (c := L)
    ⟨hL, fun t => by rw [if_neg (by omega)]; omega⟩ (fun j c x hx ⟨h1, h2⟩ => by
      obtain ⟨rfl, hj⟩ := range_get hx
      refine ⟨_, hs c j h1 hj, by rw [List.length_set]; exact h1, fun t => ?_⟩
      rw [co_set (by omega)]
      by_cases e : t = i + j
      · subst e
        rw [if_pos rfl, h2, if_neg (by omega), if_pos (by omega), show i + j - i = j by omega]; omega
      · rw [if_neg e, h2]
        have : (i ≤ t ∧ t < i + j) ↔ (i ≤ t ∧ t < i + (j + 1)) := by omega
        simp only [this])
  rw [rangeL_len] at h2
  exact ⟨c, e, h1, h2⟩
/-- the product of two rows, added up in place -/
theorem timesInto {N : Nat} {f g : List Int} {row : List Int → Int → M (List Int)} {L : List Int} (hL : L.length = N) (hN : f.length + g.length ≤ N + 1) (h0 : ∀ t, co L t = 0)
    (hr : ∀ (c : List Int) (i : Nat), c.length = N → i < f.length → ∃ c', row c (i : Int) = ok c' ∧ c'.length = N ∧ ∀ t, co c' t = co c t + if i ≤ t ∧ t < i + g.length then co f i * co g (t - i) else 0) :
    ∃ L', loopM row L (rangeL 0 f.length) = ok L' ∧ L'.length = N ∧ ∀ t, co L' t = co (mulP f g) t := by
  obtain ⟨c, e, h1, h2⟩ := loopM_inv (f := row) (fun i (c : List Int) => c.length = N ∧ ∀ t, co c t = co (mulP (f.take i) g) t) (xs := rangeL 0 f.length) (c := L)
    ⟨hL, fun t => by rw [h0]; rfl⟩ (fun i c x hx ⟨h1, h2⟩ => by
      obtain ⟨rfl, hi⟩ := range_get hx
      obtain ⟨c', e', l', k'⟩ := hr c i h1 hi
      refine ⟨c', e', l', fun t => ?_⟩
      rw [k', h2, List.take_succ_eq_append_getElem hi, mulP_snoc, List.length_take, Nat.min_eq_left (by omega), ← co_get hi]
      congr 1
      by_cases ht : i ≤ t
      · rw [if_pos ht]
        by_cases ht2 : t < i + g.length
        · rw [if_pos ⟨ht, ht2⟩]
        · rw [if_neg (by omega), co_out (xs := g) (by omega)]; omega
      · rw [if_neg (by omega), if_neg ht])
  rw [rangeL_len] at h2
  exact ⟨c, e, h1, fun t => by rw [h2, List.take_length]⟩
theorem is_poly_last {xs : List Int} (h : Cut xs) (hn : xs ≠ []) : pget xs (-1) = ok (co xs (xs.length - 1)) ∧ co xs (xs.length - 1) ≠ 0 := by
  refine ⟨?_, h.last hn⟩
  rcases h with z | ⟨a, l, rfl, _⟩
  · exact absurd z hn
  · unfold pget
    rw [atI_last, List.length_append, co_append_r (by simp)]
    simp [co]
end T

set_option maxRecDepth 100000
namespace T
open PySem PySem.Spec PyProof.Rows L2
theorem far_sm (cell : Int) {parts k : Nat} {most prime : Int} (hk : parts ≤ 1000) (hm : 20 ≤ most) (hs : Sm k most) (hp : 0 < prime) : ∃ v, m_far cell (parts : Int) most prime = ok v ∧ Sm k v := by
  obtain ⟨v, e, l, u⟩ := far_ok cell (parts := parts) (most := most) (prime := prime) hk hm hp
  exact ⟨v, e, Nat.le_trans (log2_le (by omega)) hs⟩
/-- places by the script's cells -/
theorem fars_ok {ns : List Int} (hl : ns.length ≤ 63) {at' : Int} (h0 : 0 ≤ at') {n parts k : Nat} {most prime : Int} (hn : n ≤ 1000000) (hk : parts ≤ 1000) (hm : 20 ≤ most) (hs : Sm k most) (hp : 0 < prime) :
    ∃ row, mapC (fun k11 => (M.bind (m_cell ns (at' + k11)) fun u12 => (m_far u12 (parts : Int) most prime))) (rangeL 0 n) = ok row ∧ row.length = n ∧ ∀ x ∈ row, Sm k x := by
  obtain ⟨row, er, lr, _, mr⟩ := mapC_ex (f := fun k11 => (M.bind (m_cell ns (at' + k11)) fun u12 => (m_far u12 (parts : Int) most prime))) (P := fun _ v => Sm k v) (xs := rangeL 0 n) (fun j hj => by
    obtain ⟨i, hi⟩ := List.getElem?_of_mem hj
    obtain ⟨rfl, _⟩ := range_get hi
    obtain ⟨u, eu⟩ := cell_ok hl (k := at' + (i : Int)) (by omega)
    rw [eu, bind_ok]
    exact far_sm u hk hm hs hp) (by rw [rangeL_len]; omega)
  rw [rangeL_len] at lr
  exact ⟨row, er, lr, fun y hy => by obtain ⟨_, _, h⟩ := mr y hy; exact h⟩
theorem prangeI_lit (n : Nat) (h : n < 2 ^ 62) : prangeI (n : Int) = ok (rangeL 0 n) := prangeI_nat h
/-! ### the law's questions about a row -/
noncomputable def m_whole (found1 : Int) : M Bool :=
  (M.bind (ok true) fun z2 => if z2 = true then (ok (!false)) else ok false)
theorem whole_ok (x : Int) : m_whole x = ok true := rfl
noncomputable def m_is_poly (found1 : (List Int)) : M Bool :=
  (M.bind (ok (!true)) fun z2 => if z2 = true then (ok false) else (M.bind (M.bind (M.bind (mapC (fun place3 => (m_whole place3)) found1) fun u4 => ok (List.all u4 id)) fun u5 => ok (!u5)) fun z6 => if z6 = true then (ok false) else (M.bind (ok (decide ((List.length found1 : Int) = 0))) fun z8 => if z8 = true then ok true else (M.bind (pget found1 (-1)) fun u7 => ok ((!decide (u7 = 0)))))))
theorem is_poly_ok {xs : List Int} (h : Cut xs) (hl : xs.length ≤ 16777216) : m_is_poly xs = ok true := by
  unfold m_is_poly
  rw [mapC_ok (g := fun _ => true) (fun x _ => whole_ok x) (by rw [sizeLine_eq]; exact hl)]
  have e : (xs.map fun _ => true).all id = true := by simp
  simp only [bind_okS, e, Bool.not_true, Bool.false_eq_true, if_false]
  by_cases hn : xs = []
  · subst hn; rfl
  · rw [if_neg (by simpa using hn)]
    obtain ⟨h1, h2⟩ := is_poly_last h hn
    rw [h1, bind_ok, decide_eq_false h2]
    rfl
noncomputable def m_horner (row1 : (List Int)) (z2 : Int) : M Int :=
  (M.bind (ok 0) fun total3 => (M.bind (M.bind (ok (List.reverse row1)) fun xs => loopM (fun (total4 : Int) place5 => (M.bind (M.bind (pmul total4 z2) fun u7 => ok (u7 + place5)) fun total6 => ok (total6))) (total3) xs) fun total8 => (ok total8)))
theorem horner_val {xs : List Int} {z : Int} {a m : Nat} (hx : ∀ x ∈ xs, Sm a x) (hz : Sm m z) (hl : (xs.length + 1) * (m + a + 2) + m < 1000000) : m_horner xs z = ok (ev xs z) := by
  unfold m_horner
  rw [bind_okS, bind_okS, horner_ok hx hz hl fun v p h => by rw [h]; rfl]
  rfl
theorem prep0 {k : Nat} (h : k ≤ 16777216) : prep [(0 : Int)] (k : Int) = ok (List.replicate k 0) := prep_ok h
/-! ### the program's rows -/
noncomputable def m_place_of (f1 : (List Int)) (at_2 : Int) : M Int :=
  (M.bind (ok (decide (at_2 < (List.length f1 : Int)))) fun z3 => if z3 = true then (pget f1 at_2) else (ok 0))
theorem place_of_ok (f : List Int) (t : Nat) : m_place_of f (t : Int) = ok (co f t) := by
  unfold m_place_of
  rw [bind_okS]
  by_cases h : t < f.length
  · rw [if_pos (decide_eq_true (by omega)), pget_co h]
  · rw [if_neg (by simp; omega), co_out (by omega)]
noncomputable def m_poly_plus (f1 : (List Int)) (g2 : (List Int)) : M (List Int) :=
  (M.bind (ok (max (List.length f1 : Int) (List.length g2 : Int))) fun many3 => (M.bind (M.bind (prangeI many3) fun xs => mapC (fun at_4 => (M.bind (m_place_of f1 at_4) fun u5 => M.bind (m_place_of g2 at_4) fun u6 => ok (u5 + u6))) xs) fun u7 => (m_cut u7)))
noncomputable def m_poly_less (f1 : (List Int)) (g2 : (List Int)) : M (List Int) :=
  (M.bind (ok (max (List.length f1 : Int) (List.length g2 : Int))) fun many3 => (M.bind (M.bind (prangeI many3) fun xs => mapC (fun at_4 => (M.bind (m_place_of f1 at_4) fun u5 => M.bind (m_place_of g2 at_4) fun u6 => ok (u5 - u6))) xs) fun u7 => (m_cut u7)))
/-- a row by its places -/
def tab (n : Nat) (h : Nat → Int) : List Int := (List.range n).map h
theorem tab_len (n : Nat) (h : Nat → Int) : (tab n h).length = n := by simp [tab]
theorem tab_co (n : Nat) (h : Nat → Int) (t : Nat) : co (tab n h) t = if t < n then h t else 0 := by
  unfold co tab
  by_cases e : t < n
  · simp [e]
  · simp [e]
theorem mapC_tab {n : Nat} {f : Int → M Int} {h : Nat → Int} (hf : ∀ i : Nat, i < n → f (i : Int) = ok (h i)) (hn : n ≤ 16777216) : mapC f (rangeL 0 n) = ok (tab n h) := by
  have : mapC f (rangeL 0 n) = ok ((rangeL 0 n).map fun x => h x.toNat) := mapC_ok (fun x hx => by
    obtain ⟨i, hi⟩ := List.getElem?_of_mem hx
    obtain ⟨rfl, hin⟩ := range_get hi
    rw [hf i hin, Int.toNat_natCast]) (by rw [rangeL_len, sizeLine_eq]; exact hn)
  rw [this]
  congr 1
  unfold rangeL tab
  rw [List.map_map]
  apply List.map_congr_left
  intro i _
  show h (0 + (i : Int)).toNat = h i
  congr 1
  omega
def subP (f g : List Int) : List Int := addP f (scaleP (-1) g)
theorem subP_co (f g : List Int) (t : Nat) : co (subP f g) t = co f t - co g t := by unfold subP; rw [addP_co, scaleP_co]; omega
theorem subP_ev (f g : List Int) (z : Int) : ev (subP f g) z = ev f z - ev g z := by unfold subP; rw [addP_ev, scaleP_ev]; omega
theorem poly_plus_ok {f g : List Int} (hf : f.length ≤ 1000000) (hg : g.length ≤ 1000000) : m_poly_plus f g = ok (cutP (addP f g)) := by
  unfold m_poly_plus
  have e : (max (f.length : Int) (g.length : Int)) = ((max f.length g.length : Nat) : Int) := by omega
  rw [bind_okS, e, prangeI_nat (by omega), bind_ok, mapC_tab (h := fun i => co f i + co g i) (fun i _ => by rw [place_of_ok, bind_ok, place_of_ok, bind_ok]) (by omega), bind_ok, cut_ok]
  congr 1
  refine cutP_congr fun t => ?_
  rw [tab_co, addP_co]
  split
  · rfl
  · rw [co_out (by omega), co_out (by omega)]; rfl
theorem poly_less_ok {f g : List Int} (hf : f.length ≤ 1000000) (hg : g.length ≤ 1000000) : m_poly_less f g = ok (cutP (subP f g)) := by
  unfold m_poly_less
  have e : (max (f.length : Int) (g.length : Int)) = ((max f.length g.length : Nat) : Int) := by omega
  rw [bind_okS, e, prangeI_nat (by omega), bind_ok, mapC_tab (h := fun i => co f i - co g i) (fun i _ => by rw [place_of_ok, bind_ok, place_of_ok, bind_ok]) (by omega), bind_ok, cut_ok]
  congr 1
  refine cutP_congr fun t => ?_
  rw [tab_co, subP_co]
  split
  · rfl
  · rw [co_out (by omega), co_out (by omega)]; rfl
noncomputable def m_poly_times (f1 : (List Int)) (g2 : (List Int)) : M (List Int) :=
  (M.bind (M.bind (ok (decide ((List.length f1 : Int) = 0))) fun z3 => if z3 = true then ok true else (ok (decide ((List.length g2 : Int) = 0)))) fun z4 => if z4 = true then (ok ([] : List Int)) else (M.bind (prep [0] (((List.length f1 : Int) + (List.length g2 : Int)) - 1)) fun places5 => (M.bind (M.bind (prangeI (List.length f1 : Int)) fun xs => loopM (fun (places6 : (List Int)) i7 => (M.bind (M.bind (prangeI (List.length g2 : Int)) fun xs => loopM (fun (places8 : (List Int)) j9 => (M.bind (M.bind (pget places8 (i7 + j9)) fun u12 => M.bind (M.bind (pget f1 i7) fun u10 => M.bind (pget g2 j9) fun u11 => (pmul u10 u11)) fun u14 => pset places8 (i7 + j9) (u12 + u14)) fun places13 => ok (places13))) (places6) xs) fun places15 => ok (places15))) (places5) xs) fun places16 => (m_cut places16))))
theorem poly_times_ok {f g : List Int} {a b : Nat} (hf : f.length ≤ 1000000) (hg : g.length ≤ 1000000) (hfa : ∀ x ∈ f, Sm a x) (hgb : ∀ x ∈ g, Sm b x) (hab : a + b < 1000000) : m_poly_times f g = ok (cutP (mulP f g)) := by
  unfold m_poly_times
  rw [bind_okS]
  by_cases h1 : f = []
  · subst h1; rfl
  by_cases h2 : g = []
  · subst h2
    rw [if_neg (by simpa using h1), bind_okS, if_pos (by simp)]
    congr 1
    exact (cutP_eq (.inl rfl) fun t => mulP_nil_r f t).symm
  have p1 : 0 < f.length := List.length_pos_iff.mpr h1
  have p2 : 0 < g.length := List.length_pos_iff.mpr h2
  have e : ((f.length : Int) + (g.length : Int)) - 1 = ((f.length + g.length - 1 : Nat) : Int) := by omega
  rw [if_neg (by simpa using h1), bind_okS, if_neg (by simpa using h2), e, prep0 (by omega), bind_ok]
  simp only [prangeI_nat (show f.length < 2 ^ 62 by omega), prangeI_nat (show g.length < 2 ^ 62 by omega), bind_okS, bind_ret]
  obtain ⟨L', e', l', k'⟩ := timesInto (N := f.length + g.length - 1) (f := f) (g := g) (row := fun (places6 : (List Int)) i7 => loopM (fun (places8 : (List Int)) j9 => (M.bind (pget places8 (i7 + j9)) fun u12 => M.bind (M.bind (pget f i7) fun u10 => M.bind (pget g j9) fun u11 => (pmul u10 u11)) fun u14 => pset places8 (i7 + j9) (u12 + u14))) (places6) (rangeL 0 g.length)) (L := List.replicate (f.length + g.length - 1) 0) (by simp) (by omega) (fun t => co_rep0 _ t) (fun c i hc hi => by
    refine addInto (s := fun j => co f i * co g j) hc (by omega) (fun c j hc hj => ?_)
    have e2 : (i : Int) + (j : Int) = ((i + j : Nat) : Int) := by omega
    rw [e2, pget_co (by omega), bind_ok, pget_co hi, bind_ok, pget_co hj, bind_ok, mul_sm (hfa _ (co_mem hi)) (hgb _ (co_mem hj)) hab, bind_ok, pset_nat (by omega)])
  rw [e', bind_ok, cut_ok]
  congr 1
  exact cutP_congr k'
theorem addP_mem {a : Nat} {f g : List Int} (hf : ∀ x ∈ f, Sm a x) (hg : ∀ x ∈ g, Sm a x) : ∀ x ∈ addP f g, Sm (a + 1) x := fun x hx => by
  obtain ⟨i, hi⟩ := List.getElem?_of_mem hx
  rw [← co_some hi, addP_co]
  have h0 : Sm a 0 := by unfold Sm; exact Nat.zero_le _
  have h1 : Sm a (co f i) := by
    by_cases h : i < f.length
    · exact hf _ (co_mem h)
    · rw [co_out (by omega)]; exact h0
  have h2 : Sm a (co g i) := by
    by_cases h : i < g.length
    · exact hg _ (co_mem h)
    · rw [co_out (by omega)]; exact h0
  exact (h1.add h2).mono (by omega)
theorem scaleP_mem {a k : Nat} {c : Int} {f : List Int} (hc : Sm k c) (hf : ∀ x ∈ f, Sm a x) : ∀ x ∈ scaleP c f, Sm (k + a + 1) x := fun x hx => by
  obtain ⟨y, hy, rfl⟩ := List.mem_map.mp hx
  exact hc.mul (hf y hy)
theorem mulP_mem {a b : Nat} {g : List Int} (hg : ∀ x ∈ g, Sm b x) : ∀ {f : List Int}, (∀ x ∈ f, Sm a x) → ∀ x ∈ mulP f g, Sm (a + b + 1 + f.length) x
  | [], _, x, hx => nomatch hx
  | y :: f, hf, x, hx => by
    have h1 := scaleP_mem (hf y List.mem_cons_self) hg
    have h2 := mulP_mem hg (f := f) fun x h => hf x (List.mem_cons_of_mem _ h)
    have := addP_mem (a := a + b + 1 + f.length) (f := scaleP y g) (g := 0 :: mulP f g) (fun x h => (h1 x h).mono (by omega)) (fun x h => by
      rcases List.mem_cons.mp h with rfl | h
      · unfold Sm; exact Nat.zero_le _
      · exact h2 x h) x hx
    rw [List.length_cons]
    exact this.mono (by omega)
theorem mulP_len (g : List Int) : ∀ f : List Int, (mulP f g).length ≤ f.length + g.length
  | [] => Nat.zero_le _
  | a :: f => by
    have := mulP_len g f
    show (addP (scaleP a g) (0 :: mulP f g)).length ≤ _
    rw [addP_len, List.length_cons, List.length_cons]
    have : (scaleP a g).length = g.length := List.length_map _
    omega
end T

set_option maxRecDepth 100000
namespace T
open PySem PySem.Spec PyProof.Rows L2
/-! ### division by a monic row -/
theorem Cut.len_le {xs : List Int} (h : Cut xs) {n : Nat} (h0 : ∀ t, n ≤ t → co xs t = 0) : xs.length ≤ n := by
  by_cases hn : xs = []
  · subst hn; exact Nat.zero_le _
  · have h1 := h.last hn
    have hp : 0 < xs.length := List.length_pos_iff.mpr hn
    by_cases hl : xs.length ≤ n
    · exact hl
    · exact absurd (h0 _ (by omega)) h1
theorem co_lt {xs : List Int} {t : Nat} (h : co xs t ≠ 0) : t < xs.length := by
  by_cases hl : t < xs.length
  · exact hl
  · exact absurd (co_out (by omega)) h
theorem rangeD_at {lo n k : Nat} {x : Int} (h : (rangeD (lo : Int) n)[k]? = some x) (hl : n ≤ lo + 1) : x = ((lo - k : Nat) : Int) ∧ k < n := by
  rw [rangeD_get] at h
  by_cases e : k < n
  · rw [if_pos e] at h
    have := Option.some.inj h
    exact ⟨by omega, e⟩
  · rw [if_neg e] at h; cases h
theorem prangeD_ok {i j : Int} (h1 : i.natAbs < 1000000000) (h2 : j.natAbs < 1000000000) : prangeD i j = ok (rangeD i (i - j).toNat) := by
  have e : (2 : Int) ^ 62 = 4611686018427387904 := by decide
  refine grd_pos ?_ _
  rw [e]
  omega
theorem cutL_take {α : Type} (xs : List α) (m : Nat) : cutL xs none (some (m : Int)) = xs.take m := by
  unfold cutL
  rw [show HT.sIx xs.length xs.length (some (m : Int)) = min m xs.length from HT.sIx_nat xs.length xs.length m, HT.sIx_none, List.drop_zero, Nat.sub_zero]
  by_cases h : m ≤ xs.length
  · rw [Nat.min_eq_left h]
  · rw [Nat.min_eq_right (by omega), List.take_length, List.take_of_length_le (by omega)]
noncomputable def m_poly_parted (f1 : (List Int)) (g2 : (List Int)) : M ((List Int) × (List Int)) :=
  (M.bind (ok ((List.length g2 : Int) - 1)) fun degree3 => (M.bind (ok f1) fun left4 => (M.bind (ok ([] : List Int)) fun quotient5 => (M.bind (M.bind (prangeD (((List.length f1 : Int) - 1) - degree3) (-1)) fun xs => loopM (fun (s6 : (List Int) × (List Int)) at_7 => (M.bind (pget s6.1 (at_7 + degree3)) fun part8 => (M.bind (papp s6.2 part8) fun quotient9 => (M.bind (M.bind (prangeI (degree3 + 1)) fun xs => loopM (fun (left10 : (List Int)) j11 => (M.bind (M.bind (pget left10 (at_7 + j11)) fun u13 => M.bind (M.bind (pget g2 j11) fun u12 => (pmul part8 u12)) fun u15 => pset left10 (at_7 + j11) (u13 - u15)) fun left14 => ok (left14))) (s6.1) xs) fun left16 => ok (left16, quotient9))))) (left4, quotient5) xs) fun s17 => (M.bind (m_cut (List.reverse s17.2)) fun u18 => M.bind (m_cut (cutL s17.1 none (some degree3))) fun u19 => ok (u18, u19))))))
theorem poly_parted_ok {f g u r : List Int} {d a b : Nat} (hu : Cut u) (hg : g.length = d + 1) (h1 : co g d = 1) (hr : ∀ t, d ≤ t → co r t = 0) (hf : Cut f) (hco : ∀ t, co f t = co (mulP u g) t + co r t)
    (hua : ∀ x ∈ u, Sm a x) (hgb : ∀ x ∈ g, Sm b x) (hab : a + b < 1000000) (hul : u.length ≤ 100000) (hd : d ≤ 100000) : m_poly_parted f g = ok (u, cutP r) := by
  unfold m_poly_parted
  have hdeg : (g.length : Int) - 1 = (d : Int) := by omega
  have hd1 : (d : Int) + 1 = ((d + 1 : Nat) : Int) := by omega
  simp only [bind_okS, bind_ret, hdeg, hd1, prangeI_nat (show d + 1 < 2 ^ 62 by omega)]
  by_cases hn : u = []
  · subst hn
    have hfr : ∀ t, co f t = co r t := fun t => by rw [hco]; show (0 : Int) + _ = _; omega
    have hl : f.length ≤ d := hf.len_le fun t ht => by rw [hfr]; exact hr t ht
    rw [prangeD_ok (by omega) (by omega), bind_ok, show ((f.length : Int) - 1 - d - -1).toNat = 0 by omega]
    rw [show rangeD ((f.length : Int) - 1 - d) 0 = [] from rfl, loopM_nil, bind_ok]
    dsimp only [List.reverse_nil]
    rw [cut_ok, bind_ok, cutL_take, cut_ok, bind_ok]
    congr 2
    refine cutP_congr fun t => ?_
    rw [co_take, hfr]
    split
    · rfl
    · exact (hr t (by omega)).symm
  · have hp : 0 < u.length := List.length_pos_iff.mpr hn
    have htop : co (mulP u g) (u.length + d - 1) = co u (u.length - 1) := by
      have := mulP_top g (by omega) u hp
      rw [hg, show u.length + (d + 1) - 2 = u.length + d - 1 by omega, show d + 1 - 1 = d by omega, h1] at this
      rw [this]; omega
    have hft : co f (u.length + d - 1) ≠ 0 := by
      rw [hco, htop, hr _ (by omega)]
      have := hu.last hn
      omega
    have hfl : f.length = u.length + d := by
      have q1 := co_lt hft
      have q2 := hf.len_le (n := u.length + d) fun t ht => by rw [hco, mulP_out g u t (by omega) (.inr (by omega)), hr t (by omega)]; rfl
      omega
    have hi : (f.length : Int) - 1 - d = ((u.length - 1 : Nat) : Int) := by omega
    rw [hi, prangeD_ok (by omega) (by omega), bind_ok, show (((u.length - 1 : Nat) : Int) - -1).toNat = u.length by omega]
    obtain ⟨c, e, l1, l2, l3, l4⟩ := loopM_inv (f := fun (s6 : (List Int) × (List Int)) at_7 => (M.bind (pget s6.1 (at_7 + (d : Int))) fun part8 => (M.bind (papp s6.2 part8) fun quotient9 => (M.bind (loopM (fun (left10 : (List Int)) j11 => (M.bind (pget left10 (at_7 + j11)) fun u13 => M.bind (M.bind (pget g j11) fun u12 => (pmul part8 u12)) fun u15 => pset left10 (at_7 + j11) (u13 - u15))) (s6.1) (rangeL 0 (d + 1))) fun left16 => ok (left16, quotient9)))))
      (fun k (c : List Int × List Int) => c.1.length = u.length + d ∧ k ≤ u.length ∧ c.2 = (u.drop (u.length - k)).reverse ∧ ∀ t, co c.1 t = co (mulP (u.take (u.length - k)) g) t + co r t) (xs := rangeD ((u.length - 1 : Nat) : Int) u.length) (c := (f, []))
      ⟨hfl, by omega, by simp, fun t => by rw [Nat.sub_zero, List.take_length]; exact hco t⟩ (by
        rintro k ⟨c1, c2⟩ x hx ⟨h2, h3, h4, h5⟩
        dsimp only at h2 h4 h5
        obtain ⟨rfl, hk⟩ := rangeD_at hx (by omega)
        have hm : u.length - k = (u.length - 1 - k) + 1 := by omega
        have hil : u.length - 1 - k < u.length := by omega
        have htk : u.take (u.length - k) = u.take (u.length - 1 - k) ++ [co u (u.length - 1 - k)] := by rw [hm, List.take_succ_eq_append_getElem hil, co_get hil]
        have hpart : co c1 (u.length - 1 - k + d) = co u (u.length - 1 - k) := by
          rw [h5, htk, mulP_snoc, List.length_take, Nat.min_eq_left (by omega), if_pos (by omega), show u.length - 1 - k + d - (u.length - 1 - k) = d by omega, h1, mulP_out g _ _ (by rw [List.length_take]; omega) (.inr (by omega)), hr _ (by omega)]
          omega
        have ed : ((u.length - 1 - k : Nat) : Int) + (d : Int) = ((u.length - 1 - k + d : Nat) : Int) := by omega
        have hua' := hua _ (co_mem hil)
        dsimp only
        rw [ed, pget_co (by omega), bind_ok, hpart, papp_ok (by rw [h4, List.length_reverse, List.length_drop]; omega), bind_ok]
        obtain ⟨L', e', l', k'⟩ := addInto (N := u.length + d) (i := u.length - 1 - k) (n := d + 1) (L := c1) (s := fun j => -(co u (u.length - 1 - k) * co g j)) (step := fun (left10 : (List Int)) j11 => (M.bind (pget left10 (((u.length - 1 - k : Nat) : Int) + j11)) fun u13 => M.bind (M.bind (pget g j11) fun u12 => (pmul (co u (u.length - 1 - k)) u12)) fun u15 => pset left10 (((u.length - 1 - k : Nat) : Int) + j11) (u13 - u15))) h2 (by omega) (fun c j hc hj => by
          have ej : ((u.length - 1 - k : Nat) : Int) + (j : Int) = ((u.length - 1 - k + j : Nat) : Int) := by omega
          rw [ej, pget_co (by omega), bind_ok, pget_co (by omega), bind_ok, mul_sm hua' (hgb _ (co_mem (by omega))) hab, bind_ok, pset_nat (by omega), Int.sub_eq_add_neg])
        rw [e', bind_ok]
        refine ⟨_, rfl, l', by omega, ?_, fun t => ?_⟩
        · dsimp only
          rw [h4, hm, show u.length - (k + 1) = u.length - 1 - k by omega, List.drop_eq_getElem_cons hil, List.reverse_cons, ← co_get hil]
        · dsimp only
          rw [k', h5, htk, mulP_snoc, List.length_take, Nat.min_eq_left (by omega), show u.length - (k + 1) = u.length - 1 - k by omega]
          by_cases ht : u.length - 1 - k ≤ t
          · rw [if_pos ht]
            by_cases ht2 : t < u.length - 1 - k + (d + 1)
            · rw [if_pos ⟨ht, ht2⟩]; omega
            · rw [if_neg (by omega), co_out (xs := g) (by omega)]; omega
          · rw [if_neg ht, if_neg (by omega)]; omega)
    rw [rangeD_len] at l3 l4
    simp only [Nat.sub_self, List.take_zero, List.drop_zero] at l3 l4
    rw [e, bind_ok, l3, List.reverse_reverse, cut_ok, bind_ok, cutP_of hu, cutL_take, cut_ok, bind_ok]
    congr 2
    refine cutP_congr fun t => ?_
    rw [co_take, l4]
    show (if t < d then (0 : Int) + co r t else 0) = co r t
    split
    · omega
    · exact (hr t (by omega)).symm
end T

set_option maxRecDepth 100000
namespace T
open PySem PySem.Spec PyProof.Rows L2
/-! ### the algebra of rows, place by place -/
theorem co_cons0 (f : List Int) : ∀ t, co (0 :: f) t = match t with | 0 => 0 | t + 1 => co f t
  | 0 => rfl
  | t + 1 => co_succ 0 f t
theorem mulP_zero_l {f : List Int} (g : List Int) : (∀ t, co f t = 0) → ∀ t, co (mulP f g) t = 0 := by
  induction f with
  | nil => intro _ t; rfl
  | cons a f ih =>
    intro h t
    have h0 : a = 0 := h 0
    have h1 : ∀ t, co f t = 0 := fun t => by rw [← co_succ a]; exact h (t + 1)
    cases t with
    | zero => rw [mulP_cons_zero, h0]; omega
    | succ t => rw [mulP_cons_succ, h0, ih h1]; omega
theorem mulP_congr_l (g : List Int) : ∀ {f f' : List Int}, (∀ t, co f t = co f' t) → ∀ t, co (mulP f g) t = co (mulP f' g) t
  | [], f', h, t => (mulP_zero_l g (fun t => (h t).symm) t).symm
  | a :: f, [], h, t => mulP_zero_l g h t
  | a :: f, b :: f', h, t => by
    have h0 : a = b := h 0
    have h1 : ∀ t, co f t = co f' t := fun t => by rw [← co_succ a, ← co_succ b]; exact h (t + 1)
    cases t with
    | zero => rw [mulP_cons_zero, mulP_cons_zero, h0]
    | succ t => rw [mulP_cons_succ, mulP_cons_succ, h0, mulP_congr_l g h1 t]
theorem mulP_congr_r {g g' : List Int} (h : ∀ t, co g t = co g' t) : ∀ (f : List Int) (t : Nat), co (mulP f g) t = co (mulP f g') t
  | [], t => rfl
  | a :: f, 0 => by rw [mulP_cons_zero, mulP_cons_zero, h]
  | a :: f, t + 1 => by rw [mulP_cons_succ, mulP_cons_succ, h, mulP_congr_r h f t]
theorem mulP_add_l (g : List Int) : ∀ (f f' : List Int) (t : Nat), co (mulP (addP f f') g) t = co (mulP f g) t + co (mulP f' g) t
  | [], f', t => by show co (mulP f' g) t = 0 + _; omega
  | a :: f, [], t => by show co (mulP (a :: f) g) t = _ + 0; omega
  | a :: f, b :: f', 0 => by
    show co (mulP ((a + b) :: addP f f') g) 0 = _
    rw [mulP_cons_zero, mulP_cons_zero, mulP_cons_zero]; grind
  | a :: f, b :: f', t + 1 => by
    show co (mulP ((a + b) :: addP f f') g) (t + 1) = _
    rw [mulP_cons_succ, mulP_cons_succ, mulP_cons_succ, mulP_add_l g f f' t]; grind
theorem mulP_add_r (g g' : List Int) : ∀ (f : List Int) (t : Nat), co (mulP f (addP g g')) t = co (mulP f g) t + co (mulP f g') t
  | [], t => rfl
  | a :: f, 0 => by rw [mulP_cons_zero, mulP_cons_zero, mulP_cons_zero, addP_co]; grind
  | a :: f, t + 1 => by rw [mulP_cons_succ, mulP_cons_succ, mulP_cons_succ, addP_co, mulP_add_r g g' f t]; grind
theorem mulP_scale_l (c : Int) (g : List Int) : ∀ (f : List Int) (t : Nat), co (mulP (scaleP c f) g) t = c * co (mulP f g) t
  | [], t => by show (0 : Int) = c * 0; omega
  | a :: f, 0 => by show co (mulP (c * a :: scaleP c f) g) 0 = _; rw [mulP_cons_zero, mulP_cons_zero]; grind
  | a :: f, t + 1 => by show co (mulP (c * a :: scaleP c f) g) (t + 1) = _; rw [mulP_cons_succ, mulP_cons_succ, mulP_scale_l c g f t]; grind
theorem mulP_scale_r (c : Int) (g : List Int) : ∀ (f : List Int) (t : Nat), co (mulP f (scaleP c g)) t = c * co (mulP f g) t
  | [], t => by show (0 : Int) = c * 0; omega
  | a :: f, 0 => by rw [mulP_cons_zero, mulP_cons_zero, scaleP_co]; grind
  | a :: f, t + 1 => by rw [mulP_cons_succ, mulP_cons_succ, scaleP_co, mulP_scale_r c g f t]; grind
theorem mulP_shift_r (g : List Int) : ∀ (f : List Int) (t : Nat), co (mulP f (0 :: g)) t = co (0 :: mulP f g) t
  | [], t => by cases t with
    | zero => rfl
    | succ t => rw [co_succ]; rfl
  | a :: f, 0 => by rw [mulP_cons_zero, co_zero, co_zero]; omega
  | a :: f, 1 => by
    rw [mulP_cons_succ, mulP_shift_r g f 0, co_succ, co_succ, mulP_cons_zero, co_zero]; omega
  | a :: f, t + 2 => by
    rw [mulP_cons_succ, mulP_shift_r g f (t + 1), co_succ, co_succ, co_succ, mulP_cons_succ]
theorem mulP_cons_r (b : Int) (g : List Int) (f : List Int) (t : Nat) : co (mulP f (b :: g)) t = b * co f t + co (0 :: mulP f g) t := by
  have h : ∀ t, co (b :: g) t = co (addP [b] (0 :: g)) t := fun t => by
    rw [addP_co]
    cases t with
    | zero => rw [co_zero, co_zero, co_zero]; omega
    | succ t => rw [co_succ, co_succ, co_succ, co_nil]; omega
  rw [mulP_congr_r h, mulP_add_r, mulP_shift_r]
  congr 1
  have h2 : ∀ (f : List Int) (t : Nat), co (mulP f [b]) t = b * co f t := fun f => by
    induction f with
    | nil => intro t; show (0 : Int) = b * 0; omega
    | cons a f ih =>
      intro t
      cases t with
      | zero => rw [mulP_cons_zero, co_zero, co_zero]; grind
      | succ t => rw [mulP_cons_succ, ih, co_succ, co_succ, co_nil]; omega
  exact h2 f t
theorem mulP_comm : ∀ (f g : List Int) (t : Nat), co (mulP f g) t = co (mulP g f) t
  | [], g, t => (mulP_nil_r g t).symm
  | a :: f, g, t => by
    rw [mulP_cons_r]
    cases t with
    | zero => rw [mulP_cons_zero, co_zero]; omega
    | succ t => rw [mulP_cons_succ, co_succ, mulP_comm f g t]
theorem mulP_assoc (g h : List Int) : ∀ (f : List Int) (t : Nat), co (mulP (mulP f g) h) t = co (mulP f (mulP g h)) t
  | [], t => rfl
  | a :: f, t => by
    show co (mulP (addP (scaleP a g) (0 :: mulP f g)) h) t = co (addP (scaleP a (mulP g h)) (0 :: mulP f (mulP g h))) t
    rw [mulP_add_l, mulP_scale_l, addP_co, scaleP_co]
    congr 1
    cases t with
    | zero => rw [mulP_cons_zero, co_zero]; omega
    | succ t => rw [mulP_cons_succ, co_succ, mulP_assoc g h f t]; omega
/-! ### numbers modulo p -/
def Cg (p x y : Int) : Prop := ∃ k, x = y + p * k
theorem Cg.refl (p x : Int) : Cg p x x := ⟨0, by omega⟩
theorem Cg.of_eq {p x y : Int} (h : x = y) : Cg p x y := h ▸ Cg.refl p x
theorem Cg.symm {p x y : Int} : Cg p x y → Cg p y x := fun ⟨k, h⟩ => ⟨-k, by rw [h]; grind⟩
theorem Cg.trans {p x y z : Int} : Cg p x y → Cg p y z → Cg p x z := fun ⟨k, h⟩ ⟨l, g⟩ => ⟨k + l, by rw [h, g]; grind⟩
theorem Cg.add {p x y z w : Int} : Cg p x y → Cg p z w → Cg p (x + z) (y + w) := fun ⟨k, h⟩ ⟨l, g⟩ => ⟨k + l, by rw [h, g]; grind⟩
theorem Cg.sub {p x y z w : Int} : Cg p x y → Cg p z w → Cg p (x - z) (y - w) := fun ⟨k, h⟩ ⟨l, g⟩ => ⟨k - l, by rw [h, g]; grind⟩
theorem Cg.mul {p x y z w : Int} : Cg p x y → Cg p z w → Cg p (x * z) (y * w) := fun ⟨k, h⟩ ⟨l, g⟩ => ⟨k * w + y * l + p * k * l, by rw [h, g]; grind⟩
theorem Cg.neg {p x y : Int} : Cg p x y → Cg p (-x) (-y) := fun ⟨k, h⟩ => ⟨-k, by rw [h]; grind⟩
theorem Cg.mod (p x : Int) : Cg p (x % p) x := ⟨-(x / p), by have := Int.mul_ediv_add_emod x p; grind⟩
theorem Cg.p0 (p k : Int) : Cg p (p * k) 0 := ⟨k, by omega⟩
theorem Cg.iff {p x y : Int} : Cg p x y ↔ x % p = y % p := by
  constructor
  · rintro ⟨k, rfl⟩; exact Int.add_mul_emod_self_left y p k
  · intro h
    exact ((Cg.mod p x).symm.trans (Cg.of_eq h)).trans (Cg.mod p y)
theorem Cg.small {p x y : Int} (h : Cg p x y) (h0 : 0 ≤ x) (h1 : x < p) (h2 : 0 ≤ y) (h3 : y < p) : x = y := by
  have := Cg.iff.mp h
  rwa [Int.emod_eq_of_lt h0 h1, Int.emod_eq_of_lt h2 h3] at this
/-- rows, place by place -/
def CgP (p : Int) (f g : List Int) : Prop := ∀ t, Cg p (co f t) (co g t)
theorem CgP.refl (p : Int) (f : List Int) : CgP p f f := fun t => Cg.refl _ _
theorem CgP.symm {p : Int} {f g : List Int} (h : CgP p f g) : CgP p g f := fun t => (h t).symm
theorem CgP.trans {p : Int} {f g h : List Int} (a : CgP p f g) (b : CgP p g h) : CgP p f h := fun t => (a t).trans (b t)
theorem CgP.of {p : Int} {f g : List Int} (h : ∀ t, co f t = co g t) : CgP p f g := fun t => Cg.of_eq (h t)
theorem CgP.add {p : Int} {f f' g g' : List Int} (a : CgP p f f') (b : CgP p g g') : CgP p (addP f g) (addP f' g') := fun t => by rw [addP_co, addP_co]; exact (a t).add (b t)
theorem CgP.scale {p : Int} (c : Int) {f f' : List Int} (a : CgP p f f') : CgP p (scaleP c f) (scaleP c f') := fun t => by rw [scaleP_co, scaleP_co]; exact (Cg.refl p c).mul (a t)
theorem CgP.mul_r {p : Int} {g g' : List Int} (h : CgP p g g') : ∀ f : List Int, CgP p (mulP f g) (mulP f g')
  | [] => CgP.refl _ _
  | a :: f => fun t => by
    cases t with
    | zero => rw [mulP_cons_zero, mulP_cons_zero]; exact (Cg.refl _ _).mul (h 0)
    | succ t => rw [mulP_cons_succ, mulP_cons_succ]; exact ((Cg.refl _ _).mul (h _)).add (CgP.mul_r h f t)
theorem CgP.mul {p : Int} {f f' g g' : List Int} (a : CgP p f f') (b : CgP p g g') : CgP p (mulP f g) (mulP f' g') :=
  (b.mul_r f).trans ((CgP.of (mulP_comm f g')).trans ((a.mul_r g').trans (CgP.of (mulP_comm g' f'))))
/-- a row's places brought to their rests -/
def modP (p : Int) (f : List Int) : List Int := cutP (f.map (· % p))
theorem modP_co (p : Int) (f : List Int) (t : Nat) : co (modP p f) t = co f t % p := by
  unfold modP
  rw [cutP_co, co_map f (· % p) (Int.zero_emod p)]
theorem modP_cg (p : Int) (f : List Int) : CgP p (modP p f) f := fun t => by rw [modP_co]; exact Cg.mod p _
theorem modP_cut (p : Int) (f : List Int) : Cut (modP p f) := cutP_cut _
theorem modP_congr {p : Int} {f g : List Int} (h : CgP p f g) : modP p f = modP p g := Cut.eq (modP_cut p f) (modP_cut p g) fun t => by rw [modP_co, modP_co]; exact Cg.iff.mp (h t)
theorem modP_len (p : Int) (f : List Int) : (modP p f).length ≤ f.length := by
  have := cutP_len (f.map (· % p))
  rwa [List.length_map] at this
/-- each place from 0 on and below p -/
def Red (p : Int) (f : List Int) : Prop := ∀ t, 0 ≤ co f t ∧ co f t < p
theorem modP_red {p : Int} (hp : 0 < p) (f : List Int) : Red p (modP p f) := fun t => by
  rw [modP_co]
  exact ⟨Int.emod_nonneg _ (by omega), Int.emod_lt_of_pos _ hp⟩
theorem Red.eq {p : Int} {f g : List Int} (hf : Red p f) (hg : Red p g) (h : CgP p f g) (t : Nat) : co f t = co g t := (h t).small (hf t).1 (hf t).2 (hg t).1 (hg t).2
theorem modP_eq {p : Int} {f g : List Int} (hp : 0 < p) (hc : Cut g) (hr : Red p g) (h : CgP p f g) : modP p f = g :=
  Cut.eq (modP_cut p f) hc ((modP_red hp f).eq hr ((modP_cg p f).trans h))
theorem Red.mem {p : Int} {f : List Int} (h : Red p f) : ∀ x ∈ f, 0 ≤ x ∧ x < p := fun x hx => by
  obtain ⟨i, hi⟩ := List.getElem?_of_mem hx
  have := h i
  rwa [co_some hi] at this
theorem Red.of {p : Int} (hp : 0 < p) {f : List Int} (h : ∀ x ∈ f, 0 ≤ x ∧ x < p) : Red p f := fun t => by
  by_cases ht : t < f.length
  · exact h _ (co_mem ht)
  · rw [co_out (by omega)]; exact ⟨by omega, hp⟩
theorem Red.sm {p : Int} {f : List Int} {k : Nat} (h : Red p f) (hp : Sm k p) : ∀ x ∈ f, Sm k x := fun x hx => by
  obtain ⟨h0, h1⟩ := h.mem x hx
  exact Nat.le_trans (log2_le (by omega)) hp
/-! ### the turned number -/
noncomputable def m_turned (a1 : Int) (p2 : Int) : M Int :=
  (M.bind (pmod a1 p2) fun one3 => (M.bind (ok p2) fun two4 => (M.bind (ok 1) fun first5 => (M.bind (ok 0) fun second6 => (M.bind (whileM (fun (s7 : Int × Int × Int × Int) => (ok (decide (1 < s7.1)))) (fun (s7 : Int × Int × Int × Int) => (M.bind (pdiv s7.2.1 s7.1) fun part8 => (M.bind (M.bind (M.bind (pmul part8 s7.1) fun u10 => ok (s7.2.1 - u10)) fun u11 => ok (u11, s7.1)) fun p9 => (M.bind (M.bind (M.bind (pmul part8 s7.2.2.1) fun u13 => ok (s7.2.2.2 - u13)) fun u14 => ok (u14, s7.2.2.1)) fun p12 => ok (p9.1, p9.2, p12.1, p12.2))))) (one3, two4, first5, second6)) fun s15 => (pmod s15.2.2.1 p2))))))
end T

set_option maxRecDepth 100000
namespace T
open PySem PySem.Spec PyProof.Rows L2
/-- nothing but 1 and -1 divides both -/
def Cop (x y : Int) : Prop := ∀ d : Int, d ∣ x → d ∣ y → d ∣ 1
theorem Cop.of_gcd {x y : Int} (h : Int.gcd x y = 1) : Cop x y := fun d h1 h2 => by
  have := Int.dvd_coe_gcd h1 h2
  rw [h] at this
  exact this
theorem pow64 : (2 : Nat) ^ 64 = 18446744073709551616 := by decide
theorem turned_ok {a p : Int} (hp : 1 < p) (hs : p.natAbs < 18446744073709551616) (hc : Cop (a % p) p) : ∃ t, m_turned a p = ok t ∧ 0 ≤ t ∧ t < p ∧ Cg p (t * a) 1 := by
  have hlog : ∀ x : Int, x.natAbs ≤ p.natAbs → x.natAbs.log2 < 9000 := fun x hx => by
    have := log2_le (show x.natAbs ≤ 18446744073709551616 by omega)
    have e : (18446744073709551616 : Nat).log2 = 64 := by decide +kernel
    omega
  have h0 := Int.emod_nonneg a (show p ≠ 0 by omega)
  have h1 := Int.emod_lt_of_pos a (show 0 < p by omega)
  have h2 : a % p ≠ 0 := fun z => by
    rw [z] at hc
    have := hc p (Int.dvd_zero p) (Int.dvd_refl p)
    have := Int.eq_one_of_dvd_one (by omega) this
    omega
  unfold m_turned
  rw [pmod_pos (by omega), bind_ok, bind_okS, bind_okS, bind_okS]
  obtain ⟨⟨o, t, f, s⟩, e, ⟨q1, q2, q3, q4, q5, q6⟩, q7⟩ := whileM_inv (t := fun (s7 : Int × Int × Int × Int) => (ok (decide (1 < s7.1)))) (b := fun (s7 : Int × Int × Int × Int) => (M.bind (pdiv s7.2.1 s7.1) fun part8 => (M.bind (M.bind (M.bind (pmul part8 s7.1) fun u10 => ok (s7.2.1 - u10)) fun u11 => ok (u11, s7.1)) fun p9 => (M.bind (M.bind (M.bind (pmul part8 s7.2.2.1) fun u13 => ok (s7.2.2.2 - u13)) fun u14 => ok (u14, s7.2.2.1)) fun p12 => ok (p9.1, p9.2, p12.1, p12.2)))))
    (fun s => 1 ≤ s.1 ∧ s.1 < s.2.1 ∧ s.2.1 ≤ p ∧ Cop s.1 s.2.1 ∧ Cg p s.1 (s.2.2.1 * a) ∧ Cg p s.2.1 (s.2.2.2 * a)) (fun s => s.1.toNat) (by
      rintro ⟨o, t, f, s⟩ ⟨q1, q2, q3, q4, q5, q6⟩
      dsimp only at q1 q2 q3 q4 q5 q6 ⊢
      by_cases hc : 1 < o
      · right
        refine ⟨by rw [decide_eq_true hc], ?_⟩
        have d1 : 0 ≤ t / o := Int.ediv_nonneg (by omega) (by omega)
        have d2 : t / o ≤ t := Int.ediv_le_self o (by omega)
        have dm := Int.mul_ediv_add_emod t o
        have m0 := Int.emod_nonneg t (show o ≠ 0 by omega)
        have m1 := Int.emod_lt_of_pos t (show 0 < o by omega)
        have e1 : t - t / o * o = t % o := by rw [Int.mul_comm (t / o) o]; omega
        have c1 : Cop (t % o) o := fun d z1 z2 => q4 d z2 (by
          rw [← dm]
          exact Int.dvd_add (Int.dvd_trans z2 (Int.dvd_mul_right o _)) z1)
        have c2 : t % o ≠ 0 := fun z => by
          rw [z] at c1
          have := c1 o (Int.dvd_zero o) (Int.dvd_refl o)
          have := Int.eq_one_of_dvd_one (by omega) this
          omega
        rw [pdiv_ok (by omega) (hlog o (by omega)), Int.fdiv_eq_ediv_of_nonneg _ (by omega), bind_ok, pmul_left (by rw [pow64]; omega), bind_ok, bind_ok, bind_ok, pmul_left (by rw [pow64]; omega), bind_ok, bind_ok, bind_ok, e1]
        refine ⟨_, rfl, ⟨by dsimp only; omega, m1, by dsimp only; omega, c1, ?_, q5⟩, by dsimp only; omega⟩
        dsimp only
        rw [← e1, Int.sub_mul]
        refine q6.sub ?_
        rw [Int.mul_assoc]
        exact (Cg.refl p _).mul q5
      · exact .inl (by rw [decide_eq_false hc])) (c := (a % p, p, 1, 0)) ⟨by dsimp only; omega, h1, by dsimp only; omega, hc, by dsimp only; rw [Int.one_mul]; exact Cg.mod p a, ⟨1, by dsimp only; omega⟩⟩
  dsimp only at q1 q5 q7
  rw [e, bind_ok]
  dsimp only
  rw [pmod_pos (by omega)]
  refine ⟨_, rfl, Int.emod_nonneg _ (by omega), Int.emod_lt_of_pos _ (by omega), ?_⟩
  have ho : o = 1 := by
    by_cases hc : 1 < o
    · rw [decide_eq_true hc] at q7; cases q7
    · omega
  rw [ho] at q5
  exact ((Cg.mod p f).mul (Cg.refl p a)).trans q5.symm
/-! ### rows modulo p, the program's -/
noncomputable def m_mod_poly (row1 : (List Int)) (p2 : Int) : M (List Int) :=
  (M.bind (mapC (fun place3 => (pmod place3 p2)) row1) fun u4 => (m_cut u4))
theorem mod_poly_ok {f : List Int} {p : Int} (hp : 0 < p) (hl : f.length ≤ 16777216) : m_mod_poly f p = ok (modP p f) := by
  unfold m_mod_poly
  rw [mapC_ok (g := fun x => x % p) (fun x _ => pmod_pos hp) (by rw [sizeLineE]; exact hl), bind_ok, cut_ok]
  rfl
noncomputable def m_mod_times (a1 : (List Int)) (b2 : (List Int)) (p3 : Int) : M (List Int) :=
  (M.bind (M.bind (m_mod_poly a1 p3) fun u4 => M.bind (m_mod_poly b2 p3) fun u5 => (m_poly_times u4 u5)) fun u6 => (m_mod_poly u6 p3))
theorem mod_times_ok {f g : List Int} {p : Int} (hp : 0 < p) (hs : Sm 64 p) (hf : f.length ≤ 1000000) (hg : g.length ≤ 1000000) : m_mod_times f g p = ok (modP p (mulP f g)) := by
  unfold m_mod_times
  have l1 := modP_len p f
  have l2 := modP_len p g
  rw [mod_poly_ok hp (by omega), bind_ok, mod_poly_ok hp (by omega), bind_ok, poly_times_ok (a := 64) (b := 64) (by omega) (by omega) ((modP_red hp f).sm hs) ((modP_red hp g).sm hs) (by omega), bind_ok, mod_poly_ok hp (by
    have := cutP_len (mulP (modP p f) (modP p g))
    have := mulP_len (modP p g) (modP p f)
    omega)]
  congr 1
  refine modP_congr ?_
  exact (CgP.of (cutP_co _)).trans (CgP.mul (modP_cg p f) (modP_cg p g))
/-- places of a row set, one by one -/
theorem setInto {N i n : Nat} {step : List Int → Int → M (List Int)} {h : Nat → Int → Int} {L : List Int} (hL : L.length = N) (hi : i + n ≤ N)
    (hs : ∀ (c : List Int) (j : Nat), c.length = N → j < n → step c (j : Int) = ok (c.set (i + j) (h j (co c (i + j))))) :
    ∃ L', loopM step L (rangeL 0 n) = ok L' ∧ L'.length = N ∧ ∀ t, co L' t = if i ≤ t ∧ t < i + n then h (t - i) (co L t) else co L t := by
  obtain ⟨c, e, h1, h2⟩ := loopM_inv (f := step) (fun j (c : List Int) => c.length = N ∧ ∀ t, co c t = if i ≤ t ∧ t < i + j then h (t - i) (co L t) else co L t) (xs := rangeL 0 n) (c := L)
    ⟨hL, fun t => by rw [if_neg (by omega)]⟩ (fun j c x hx ⟨h1, h2⟩ => by
      obtain ⟨rfl, hj⟩ := range_get hx
      refine ⟨_, hs c j h1 hj, by rw [List.length_set]; exact h1, fun t => ?_⟩
      rw [co_set (by omega)]
      by_cases e : t = i + j
      · subst e
        rw [if_pos rfl, h2, if_neg (by omega), if_pos (by omega), show i + j - i = j by omega]
      · rw [if_neg e, h2]
        have : (i ≤ t ∧ t < i + j) ↔ (i ≤ t ∧ t < i + (j + 1)) := by omega
        simp only [this])
  rw [rangeL_len] at h2
  exact ⟨c, e, h1, h2⟩
theorem co_lead (m : Nat) (x : Int) (xs : List Int) (t : Nat) : co (List.replicate m 0 ++ x :: xs) t = co (addP (List.replicate m 0 ++ [x]) (List.replicate (m + 1) 0 ++ xs)) t := by
  rw [addP_co]
  have l : (List.replicate m (0 : Int)).length = m := List.length_replicate
  have l1 : (List.replicate (m + 1) (0 : Int)).length = m + 1 := List.length_replicate
  by_cases h : t < m
  · rw [co_append_l (by omega), co_append_l (by omega), co_append_l (by omega), co_rep0, co_rep0]; rfl
  · rw [co_append_r (by omega), co_append_r (by omega), l]
    by_cases e : t = m
    · subst e
      rw [Nat.sub_self, co_zero, co_zero, co_append_l (by omega), co_rep0]; omega
    · rw [co_append_r (by omega), l1]
      obtain ⟨k, hk⟩ : ∃ k, t - m = k + 1 := ⟨t - m - 1, by omega⟩
      rw [hk, co_succ, co_succ, co_nil, show t - (m + 1) = k by omega]; omega
theorem mulP_lead (m : Nat) (x : Int) (G : List Int) (t : Nat) : co (mulP (List.replicate m 0 ++ [x]) G) t = if m ≤ t then x * co G (t - m) else 0 := by
  rw [mulP_snoc, List.length_replicate, mulP_zero_l G (fun t => co_rep0 m t)]
  omega
noncomputable def m_mod_parted (a1 : (List Int)) (b2 : (List Int)) (p3 : Int) : M ((List Int) × (List Int)) :=
  (M.bind (m_mod_poly a1 p3) fun left4 => (M.bind (m_mod_poly b2 p3) fun by_5 => (M.bind (ok ((List.length by_5 : Int) - 1)) fun degree6 => (M.bind (M.bind (pget by_5 degree6) fun u8 => (m_turned u8 p3)) fun back7 => (M.bind (ok ([] : List Int)) fun quotient9 => (M.bind (M.bind (prangeD (((List.length left4 : Int) - 1) - degree6) (-1)) fun xs => loopM (fun (s10 : (List Int) × (List Int)) at_11 => (M.bind (M.bind (M.bind (pget s10.1 (at_11 + degree6)) fun u13 => (pmul u13 back7)) fun u14 => (pmod u14 p3)) fun part12 => (M.bind (papp s10.2 part12) fun quotient15 => (M.bind (M.bind (prangeI (degree6 + 1)) fun xs => loopM (fun (left16 : (List Int)) j17 => (M.bind (M.bind (M.bind (M.bind (pget left16 (at_11 + j17)) fun u19 => M.bind (M.bind (pget by_5 j17) fun u18 => (pmul part12 u18)) fun u20 => ok (u19 - u20)) fun u21 => (pmod u21 p3)) fun u23 => (pset left16 (at_11 + j17) u23)) fun left22 => ok (left22))) (s10.1) xs) fun left24 => ok (left24, quotient15))))) (left4, quotient9) xs) fun s25 => (M.bind (m_cut (List.reverse s25.2)) fun u26 => M.bind (m_cut (cutL s25.1 none (some degree6))) fun u27 => ok (u26, u27))))))))
theorem rangeD_atN {n d l k : Nat} {x : Int} (hn : n = l - d) (h : (rangeD ((l : Int) - 1 - (d : Int)) n)[k]? = some x) : x = ((n - 1 - k : Nat) : Int) ∧ k < n := by
  rw [rangeD_get] at h
  by_cases e : k < n
  · rw [if_pos e] at h
    have := Option.some.inj h
    exact ⟨by omega, e⟩
  · rw [if_neg e] at h; cases h
/-- division modulo p -/
theorem mod_parted_ok {f g G : List Int} {p : Int} {d : Nat} (hp : 1 < p) (hs : p.natAbs < 18446744073709551616) (hG : modP p g = G) (hd : G.length = d + 1) (hc : Cop (co G d % p) p) (hf : f.length ≤ 100000) (hg : g.length ≤ 100000) :
    ∃ Q R, m_mod_parted f g p = ok (Q, R) ∧ Cut Q ∧ Cut R ∧ Red p Q ∧ Red p R ∧ R.length ≤ d ∧ Q.length ≤ f.length ∧ CgP p f (addP (mulP Q G) R) := by
  have hp0 : 0 < p := by omega
  have gl : G.length ≤ g.length := hG ▸ modP_len p g
  have rG : Red p G := hG ▸ modP_red hp0 g
  have sp : Sm 64 p := Nat.le_trans (log2_le (show p.natAbs ≤ 18446744073709551616 by omega)) (by decide +kernel)
  obtain ⟨b, eb, b0, b1, bc⟩ := turned_ok hp hs hc
  unfold m_mod_parted
  generalize hF : modP p f = F
  have fl : F.length ≤ f.length := hF ▸ modP_len p f
  have rF : Red p F := hF ▸ modP_red hp0 f
  have cF : CgP p F f := hF ▸ modP_cg p f
  rw [mod_poly_ok hp0 (by omega), bind_ok, mod_poly_ok hp0 (by omega), bind_ok, hF, hG, bind_okS, show (G.length : Int) - 1 = (d : Int) by omega, pget_co (by omega), bind_ok, eb, bind_ok, bind_okS]
  simp only [show (d : Int) + 1 = ((d + 1 : Nat) : Int) by omega, prangeI_nat (show d + 1 < 2 ^ 62 by omega), bind_okS, bind_ret]
  rw [prangeD_ok (by omega) (by omega), bind_ok]
  obtain ⟨n, hn⟩ : ∃ n, n = F.length - d := ⟨_, rfl⟩
  rw [show ((F.length : Int) - 1 - d - -1).toNat = n by omega]
  have sb : Sm 64 b := Nat.le_trans (log2_le (by omega)) sp
  obtain ⟨⟨c1, c2⟩, e, l1, l2, l3, l4, l5, l6⟩ := loopM_inv (f := fun (s10 : (List Int) × (List Int)) at_11 => (M.bind (M.bind (M.bind (pget s10.1 (at_11 + (d : Int))) fun u13 => (pmul u13 b)) fun u14 => (pmod u14 p)) fun part12 => (M.bind (papp s10.2 part12) fun quotient15 => (M.bind (loopM (fun (left16 : (List Int)) j17 => (M.bind (M.bind (M.bind (pget left16 (at_11 + j17)) fun u19 => M.bind (M.bind (pget G j17) fun u18 => (pmul part12 u18)) fun u20 => ok (u19 - u20)) fun u21 => (pmod u21 p)) fun u23 => (pset left16 (at_11 + j17) u23))) (s10.1) (rangeL 0 (d + 1))) fun left24 => ok (left24, quotient15)))))
    (fun k (c : List Int × List Int) => c.1.length = F.length ∧ c.2.length = k ∧ Red p c.1 ∧ (∀ x ∈ c.2, 0 ≤ x ∧ x < p) ∧ (∀ t, n - k + d ≤ t → co c.1 t = 0) ∧ CgP p F (addP c.1 (mulP (List.replicate (n - k) 0 ++ c.2.reverse) G))) (xs := rangeD ((F.length : Int) - 1 - (d : Int)) n) (c := (F, []))
    ⟨rfl, rfl, rF, fun x hx => (nomatch hx), fun t ht => co_out (by dsimp only; omega), fun t => by
      rw [addP_co, mulP_zero_l G (fun t => by rw [List.reverse_nil, List.append_nil]; exact co_rep0 _ t)]
      exact Cg.of_eq (by dsimp only; omega)⟩ (by
    rintro k ⟨c1, c2⟩ x hx ⟨h1, h2, h3, h4, h5, h6⟩
    dsimp only at h1 h2 h3 h4 h5 h6
    obtain ⟨rfl, hk⟩ := rangeD_atN hn hx
    generalize hat : n - 1 - k = a
    have hnk : n - k = a + 1 := by omega
    rw [hnk] at h5 h6
    dsimp only
    rw [show (a : Int) + (d : Int) = ((a + d : Nat) : Int) by omega, pget_co (by omega), bind_ok, mul_sm (j := 64) (k := 64) (Nat.le_trans (log2_le (by have := h3 (a + d); omega)) sp) sb (by omega), bind_ok, pmod_pos hp0, bind_ok]
    generalize hpt : co c1 (a + d) * b % p = pt
    have p0 : 0 ≤ pt := hpt ▸ Int.emod_nonneg _ (by omega)
    have p1 : pt < p := hpt ▸ Int.emod_lt_of_pos _ hp0
    have spt : Sm 64 pt := Nat.le_trans (log2_le (by omega)) sp
    rw [papp_ok (by omega), bind_ok]
    obtain ⟨L', e', l', k'⟩ := setInto (N := F.length) (i := a) (n := d + 1) (L := c1) (h := fun j x => (x - pt * co G j) % p) (step := fun (left16 : (List Int)) j17 => (M.bind (M.bind (M.bind (pget left16 ((a : Int) + j17)) fun u19 => M.bind (M.bind (pget G j17) fun u18 => (pmul pt u18)) fun u20 => ok (u19 - u20)) fun u21 => (pmod u21 p)) fun u23 => (pset left16 ((a : Int) + j17) u23))) h1 (by omega) (fun c j hc hj => by
      rw [show (a : Int) + (j : Int) = ((a + j : Nat) : Int) by omega, pget_co (by omega), bind_ok, pget_co (by omega), bind_ok, mul_sm (j := 64) (k := 64) spt (rG.sm sp _ (co_mem (by omega))) (by omega), bind_ok, bind_ok, pmod_pos hp0, bind_ok, pset_nat (by omega)])
    rw [e', bind_ok]
    have hcg : ∀ t, Cg p (co L' t) (co c1 t - if a ≤ t then pt * co G (t - a) else 0) := fun t => by
      rw [k']
      by_cases ht : a ≤ t
      · rw [if_pos ht]
        by_cases ht2 : t < a + (d + 1)
        · rw [if_pos ⟨ht, ht2⟩]; exact Cg.mod p _
        · rw [if_neg (by omega), co_out (xs := G) (by omega)]; exact Cg.of_eq (by omega)
      · rw [if_neg ht, if_neg (by omega)]; exact Cg.of_eq (by omega)
    have rL : Red p L' := fun t => by
      rw [k']
      split
      · exact ⟨Int.emod_nonneg _ (by omega), Int.emod_lt_of_pos _ hp0⟩
      · exact h3 t
    refine ⟨_, rfl, l', by rw [List.length_append, h2]; rfl, rL, fun x hx => ?_, fun t ht => ?_, fun t => ?_⟩
    · rcases List.mem_append.mp hx with q | q
      · exact h4 x q
      · have : x = pt := by simpa using q
        subst this; exact ⟨p0, p1⟩
    · dsimp only
      have ht : a + d ≤ t := by omega
      by_cases e : t = a + d
      · subst e
        have z1 := hcg (a + d)
        rw [if_pos (by omega), show a + d - a = d by omega] at z1
        have z2 : Cg p (pt * co G d) (co c1 (a + d)) := by
          rw [← hpt]
          refine ((Cg.mod p _).mul (Cg.refl p _)).trans ?_
          rw [Int.mul_assoc]
          refine ((Cg.refl p _).mul bc).trans (Cg.of_eq (by omega))
        have z3 : Cg p (co L' (a + d)) 0 := z1.trans (((Cg.refl p _).sub z2).trans (Cg.of_eq (by omega)))
        exact z3.small (rL _).1 (rL _).2 (by omega) hp0
      · rw [k', if_neg (by omega)]; exact h5 t (by omega)
    · dsimp only
      refine (h6 t).trans ?_
      rw [addP_co, addP_co, show n - (k + 1) = a by omega, List.reverse_append, List.reverse_singleton, List.singleton_append, mulP_congr_l G (co_lead a pt c2.reverse), mulP_add_l, mulP_lead]
      obtain ⟨z, hz⟩ := hcg t
      exact ⟨-z, by rw [hz]; grind⟩)
  rw [rangeD_len] at l2 l5 l6
  dsimp only at l1 l2 l3 l4 l5 l6
  simp only [Nat.sub_self, List.replicate_zero, List.nil_append, Nat.zero_add] at l5 l6
  rw [e, bind_ok]
  dsimp only
  rw [cut_ok, bind_ok, cutL_take, cut_ok, bind_ok]
  have hR : ∀ t, co (cutP (c1.take d)) t = co c1 t := fun t => by
    rw [cutP_co, co_take]
    split
    · rfl
    · exact (l5 t (by omega)).symm
  refine ⟨_, _, rfl, cutP_cut _, cutP_cut _, ?_, fun t => by rw [hR]; exact l3 t, (cutP_cut _).len_le fun t ht => by rw [hR]; exact l5 t ht, ?_, ?_⟩
  · exact Red.of hp0 fun x hx => l4 x (List.mem_reverse.mp (cutP_mem hx))
  · have := cutP_len c2.reverse
    rw [List.length_reverse] at this; omega
  · refine cF.symm.trans (l6.trans (CgP.of fun t => ?_))
    rw [addP_co, addP_co, hR, mulP_congr_l G (cutP_co c2.reverse)]
    omega
/-- the top place of a product, modulo p -/
theorem mulP_topM {p : Int} {G : List Int} {d : Nat} (hd : G.length = d + 1) : ∀ (D : List Int) (m : Nat), (∀ t, m < t → Cg p (co D t) 0) → Cg p (co (mulP D G) (m + d)) (co D m * co G d)
  | [], m, _ => by rw [co_nil]; exact Cg.of_eq (by show (0 : Int) = _; omega)
  | a :: D, 0, h => by
    have hz : ∀ t, Cg p (co D t) (co [] t) := fun t => by have := h (t + 1) (by omega); rwa [co_succ] at this
    rw [co_zero, Nat.zero_add]
    cases d with
    | zero => rw [mulP_cons_zero]; exact Cg.refl _ _
    | succ d =>
      rw [mulP_cons_succ]
      have : Cg p (co (mulP D G) d) (co (mulP [] G) d) := CgP.mul (f := D) (f' := []) hz (CgP.refl p G) d
      exact ((Cg.refl p _).add this).trans (Cg.of_eq (by show _ + (0 : Int) = _; omega))
  | a :: D, m + 1, h => by
    rw [show m + 1 + d = (m + d) + 1 by omega, mulP_cons_succ, co_succ, co_out (xs := G) (by omega)]
    have := mulP_topM hd D m fun t ht => by have := h (t + 1) (by omega); rwa [co_succ] at this
    exact (Cg.of_eq (by omega)).trans this
theorem div_zero {p : Int} {G D R : List Int} {d : Nat} (hd : G.length = d + 1) {b : Int} (hb : Cg p (b * co G d) 1) (hR : ∀ t, d ≤ t → Cg p (co R t) 0) (h : ∀ t, Cg p (co (mulP D G) t) (co R t)) : ∀ t, Cg p (co D t) 0 := by
  have key : ∀ k : Nat, ∀ t, D.length - k ≤ t → Cg p (co D t) 0 := by
    intro k
    induction k with
    | zero => intro t ht; rw [co_out (by omega)]; exact Cg.refl _ _
    | succ k ih =>
      intro t ht
      by_cases e : D.length - k ≤ t
      · exact ih t e
      · have h1 := mulP_topM (p := p) hd D t fun u hu => ih u (by omega)
        have h2 : Cg p (co D t * co G d) 0 := h1.symm.trans ((h _).trans (hR _ (by omega)))
        have h3 : Cg p (co D t * (b * co G d)) 0 := ((Cg.of_eq (by grind)).trans ((Cg.refl p b).mul h2)).trans (Cg.of_eq (by omega))
        exact (((Cg.refl p (co D t)).mul hb).symm.trans h3 |> fun z => (Cg.of_eq (by omega)).trans z)
  intro t
  exact key D.length t (by omega)
/-- .. is the only one -/
theorem div_one {p : Int} {G Q Q' R R' : List Int} {d : Nat} (hp : 0 < p) (hd : G.length = d + 1) {b : Int} (hb : Cg p (b * co G d) 1) (h : CgP p (addP (mulP Q G) R) (addP (mulP Q' G) R'))
    (hR : ∀ t, d ≤ t → co R t = 0) (hR' : ∀ t, d ≤ t → co R' t = 0) : CgP p Q Q' ∧ CgP p R R' := by
  have h1 : ∀ t, Cg p (co (mulP (subP Q Q') G) t) (co (subP R' R) t) := fun t => by
    unfold subP
    rw [mulP_add_l, mulP_scale_l, addP_co, scaleP_co]
    have := h t
    rw [addP_co, addP_co] at this
    obtain ⟨k, hk⟩ := this
    exact ⟨k, by omega⟩
  have h2 := div_zero (p := p) hd hb (R := subP R' R) (fun t ht => by rw [subP_co, hR t ht, hR' t ht]; exact Cg.refl _ _) h1
  have h3 : CgP p Q Q' := fun t => by
    have := h2 t
    rw [subP_co] at this
    obtain ⟨k, hk⟩ := this
    exact ⟨k, by omega⟩
  refine ⟨h3, fun t => ?_⟩
  have h4 := h t
  have h5 := CgP.mul h3 (CgP.refl p G) t
  rw [addP_co, addP_co] at h4
  obtain ⟨k, hk⟩ := h4
  obtain ⟨l, hl⟩ := h5
  exact ⟨k - l, by grind⟩
end T

set_option maxRecDepth 100000
namespace T
open PySem PySem.Spec PyProof.Rows L2
/-! ### the laws' helpers modulo a prime -/
def primesL : List Int := [2, 3, 5, 7, 11, 13, 17, 19, 23, 29, 31, 37, 41, 43, 47, 53, 59, 61, 67, 71, 73, 79, 83, 89, 97, 101, 103, 107, 109, 113, 127, 131, 137, 139, 149, 151, 157, 163, 167, 173, 179, 181, 191, 193, 197, 199]
noncomputable def m_primes  : M (List Int) :=
  (M.bind (prange2 2 200) fun xs => compL (fun n1 => (M.bind (M.bind (prange2 2 15) fun xs => mapC (fun d2 => (M.bind (ok (decide (n1 = d2))) fun z4 => if z4 = true then ok true else (M.bind (pmod n1 d2) fun u3 => ok ((!decide (u3 = 0)))))) xs) fun u5 => ok (List.all u5 id))) (fun n1 => (ok n1)) xs)
theorem primes_ok : m_primes = ok primesL := by kernel_rfl
theorem primes_fact : ∀ p ∈ primesL, 1 < p ∧ p < 200 ∧ (List.range p.natAbs).all (fun a => a == 0 || Nat.gcd a p.natAbs == 1) = true := by decide +kernel
def IsP (p : Int) : Prop := 1 < p ∧ p < 200 ∧ ∀ a : Int, a % p ≠ 0 → Cop (a % p) p
theorem isP_of {p : Int} (h : p ∈ primesL) : IsP p := by
  obtain ⟨h1, h2, h3⟩ := primes_fact p h
  refine ⟨h1, h2, fun a ha => Cop.of_gcd ?_⟩
  have m0 := Int.emod_nonneg a (show p ≠ 0 by omega)
  have m1 := Int.emod_lt_of_pos a (show 0 < p by omega)
  have h4 := List.all_eq_true.mp h3 (a % p).natAbs (List.mem_range.mpr (by omega))
  rw [Bool.or_eq_true] at h4
  rcases h4 with z | z
  · have : (a % p).natAbs = 0 := eq_of_beq z
    omega
  · exact eq_of_beq z
noncomputable def m_prime (cell_here1 : Int) (prime_here2 : Int) : M Int :=
  (M.bind (m_draws cell_here1 [2, 46] prime_here2) fun found3 => (M.bind (M.bind (pget found3 0) fun u4 => ok (decide (u4 = 0))) fun z5 => if z5 = true then (M.bind m_primes fun u7 => M.bind (M.bind (pget found3 1) fun u6 => ok (u6 % 6)) fun u8 => (pget u7 u8)) else (M.bind m_primes fun u9 => M.bind (pget found3 1) fun u10 => (pget u9 u10))))
theorem prime_ok (cell : Int) {prime : Int} (hp : 0 < prime) : ∃ p, m_prime cell prime = ok p ∧ p ∈ primesL := by
  unfold m_prime
  obtain ⟨rs, e, hd⟩ := draws_ok cell (ws := [2, 46]) (prime := prime) Widths.of hp
  obtain ⟨w0, r0, a0, b0⟩ := hd.at (i := 0) (w := 2) rfl
  obtain ⟨w1, r1, a1, b1⟩ := hd.at (i := 1) (w := 46) rfl
  have p0 : pget rs 0 = ok w0 := pget_some (i := 0) r0
  have p1 : pget rs 1 = ok w1 := pget_some (i := 1) r1
  simp only [e, p0, p1, bind_okS, primes_ok]
  have hl : primesL.length = 46 := rfl
  have key : ∀ i : Int, 0 ≤ i → i < 46 → ∃ p, pget primesL i = ok p ∧ p ∈ primesL := fun i h0 h1 => by
    obtain ⟨n, rfl⟩ := Int.eq_ofNat_of_zero_le h0
    have hn : n < primesL.length := by omega
    exact ⟨_, pget_nat hn, List.getElem_mem hn⟩
  by_cases h : w0 = 0
  · rw [if_pos (decide_eq_true h)]; exact key _ (by omega) (by omega)
  · rw [if_neg (by simpa using h)]; exact key _ a1 b1
noncomputable def m_mod_places (cell_here1 : Int) (many2 : Int) (p3 : Int) (prime_here4 : Int) : M (List Int) :=
  (M.bind (prep [p3] many2) fun u5 => (m_draws cell_here1 u5 prime_here4))
theorem mod_places_ok (cell : Int) {n : Nat} {p prime : Int} (hn : n ≤ 1000) (h0 : 0 < p) (h1 : p < 1000000) (hp : 0 < prime) : ∃ row, m_mod_places cell (n : Int) p prime = ok row ∧ row.length = n ∧ Red p row := by
  unfold m_mod_places
  have hlog : p.natAbs.log2 < 9000 := by
    have := log2_le (show p.natAbs ≤ 1000000 by omega)
    have e : (1000000 : Nat).log2 = 19 := by decide +kernel
    omega
  rw [prep_ok (by omega), bind_ok]
  obtain ⟨rs, e, hd⟩ := draws_ok cell (ws := List.replicate n p) (prime := prime) ⟨by rw [List.length_replicate]; omega, fun w hw => by rw [List.eq_of_mem_replicate hw]; exact ⟨h0, hlog⟩⟩ hp
  refine ⟨rs, e, by rw [hd.1, List.length_replicate], Red.of h0 fun x hx => ?_⟩
  obtain ⟨i, hi⟩ := List.getElem?_of_mem hx
  have hil : i < n := by
    have := (List.getElem?_eq_some_iff.mp hi).1
    rw [hd.1, List.length_replicate] at this
    exact this
  exact hd.2 i p x (by rw [List.getElem?_replicate, if_pos hil]) hi
noncomputable def m_written (places1 : (List Int)) (p2 : Int) (cell_here3 : Int) (prime_here4 : Int) : M (List Int) :=
  (M.bind (M.bind (M.bind (prep [100000000] (List.length places1 : Int)) fun u6 => (pcat [4] u6)) fun u7 => (m_draws cell_here3 u7 prime_here4)) fun found5 => (M.bind (M.bind (pget found5 0) fun u9 => (pget [0, 1, 100000000000000000000, 10000000000000000000000000000000000000000000000000000000000000000000000000000000000000000] u9)) fun far8 => (mapC (fun x10 => (M.bind (M.bind (pmul p2 far8) fun u11 => (pmul u11 (x10.2 - 50000000))) fun u12 => ok (x10.1 + u12))) (List.zip places1 (cutL found5 (some 1) none)))))
theorem written_ok {f : List Int} {p : Int} (cell : Int) {prime : Int} (hf : f.length ≤ 1000) (h0 : 0 < p) (h1 : p < 1000000) (hp : 0 < prime) : ∃ row, m_written f p cell prime = ok row ∧ row.length = f.length ∧ CgP p row f := by
  unfold m_written
  rw [prep_ok (by omega), bind_ok, pcat_ok (by rw [List.length_replicate]; simp; omega), bind_ok]
  obtain ⟨rs, e, hd⟩ := draws_ok cell (ws := [4] ++ List.replicate f.length 100000000) (prime := prime) ⟨by rw [List.length_append, List.length_replicate]; simp; omega, fun w hw => by
    rcases List.mem_append.mp hw with q | q
    · have : w = 4 := by simpa using q
      subst this; exact ⟨by omega, by decide +kernel⟩
    · rw [List.eq_of_mem_replicate q]; exact ⟨by omega, by decide +kernel⟩⟩ hp
  obtain ⟨w0, r0, a0, b0⟩ := hd.at (i := 0) (w := 4) rfl
  have p0 : pget rs 0 = ok w0 := pget_some (i := 0) r0
  have hl : rs.length = f.length + 1 := by rw [hd.1, List.length_append, List.length_replicate]; simp; omega
  rw [e, bind_ok, p0, bind_ok]
  have hfar : ∃ far : Int, (pget [0, 1, 100000000000000000000, 10000000000000000000000000000000000000000000000000000000000000000000000000000000000000000] w0 : M Int) = ok far ∧ Sm 400 far := by
    have : w0 = 0 ∨ w0 = 1 ∨ w0 = 2 ∨ w0 = 3 := by omega
    rcases this with rfl | rfl | rfl | rfl
    · exact ⟨0, rfl, by unfold Sm; decide⟩
    · exact ⟨1, rfl, by unfold Sm; decide⟩
    · exact ⟨100000000000000000000, rfl, by unfold Sm; decide +kernel⟩
    · exact ⟨10000000000000000000000000000000000000000000000000000000000000000000000000000000000000000, rfl, by unfold Sm; decide +kernel⟩
  obtain ⟨far, ef, sf⟩ := hfar
  have sp : Sm 64 p := Sm.of (A := 1000000) (by omega)
  have sfp := sp.mul sf
  rw [ef, bind_ok, show cutL rs (some 1) none = rs.drop 1 from cutL_from 1 (by omega)]
  obtain ⟨row, er, lr, gr, _⟩ := mapC_ex (f := fun (x10 : Int × Int) => (M.bind (M.bind (pmul p far) fun u11 => (pmul u11 (x10.2 - 50000000))) fun u12 => ok (x10.1 + u12))) (P := fun x y => y = x.1 + p * far * (x.2 - 50000000)) (xs := List.zip f (rs.drop 1)) (fun x hx => by
    obtain ⟨a, b⟩ := x
    have hb : b ∈ rs := List.mem_of_mem_drop (List.of_mem_zip hx).2
    obtain ⟨i, hi⟩ := List.getElem?_of_mem hb
    have hb2 : 0 ≤ b ∧ b < 1000000000 := by
      have hil : i < ([4] ++ List.replicate f.length (100000000 : Int)).length := by
        have := (List.getElem?_eq_some_iff.mp hi).1
        rw [hd.1] at this; exact this
      have h := hd.2 i _ b (List.getElem?_eq_getElem hil) hi
      have hm := List.getElem_mem hil
      rcases List.mem_append.mp hm with q | q
      · have : ([4] ++ List.replicate f.length (100000000 : Int))[i] = 4 := by simpa using q
        omega
      · have := List.eq_of_mem_replicate q
        omega
    refine ⟨_, ?_, rfl⟩
    dsimp only
    rw [mul_sm sp sf (by omega), bind_ok, mul_sm sfp (Sm.of (A := 10000000000) (k := 64) (by omega)) (by omega), bind_ok]) (by rw [List.length_zip, List.length_drop]; omega)
  rw [er]
  rw [List.length_zip, List.length_drop] at lr
  refine ⟨row, rfl, by omega, fun t => ?_⟩
  by_cases ht : t < f.length
  · have h1 : t < row.length := by omega
    have h2 : t < (rs.drop 1).length := by rw [List.length_drop]; omega
    have h3 : (List.zip f (rs.drop 1))[t]? = some (f[t], (rs.drop 1)[t]) := by
      rw [List.getElem?_zip_eq_some]
      exact ⟨List.getElem?_eq_getElem ht, List.getElem?_eq_getElem h2⟩
    have := gr t _ _ h3 (List.getElem?_eq_getElem h1)
    rw [co_get h1, co_get ht, this]
    exact ⟨far * ((rs.drop 1)[t] - 50000000), by dsimp only; rw [Int.mul_assoc]⟩
  · rw [co_out (by omega), co_out (by omega)]; exact Cg.refl _ _
noncomputable def m_is_mod (found1 : (List Int)) (p2 : Int) : M Bool :=
  (M.bind (m_is_poly found1) fun z8 => if z8 = true then (M.bind (mapC (fun place3 => (if (decide (0 ≤ place3)) = true then ok (decide (place3 < p2)) else ok false)) found1) fun u7 => ok (List.all u7 id)) else ok false)
theorem is_mod_ok {xs : List Int} {p : Int} (h : Cut xs) (hr : Red p xs) (hl : xs.length ≤ 16777216) : m_is_mod xs p = ok true := by
  unfold m_is_mod
  rw [is_poly_ok h hl, bind_ok, if_pos rfl, mapC_ok (g := fun _ => true) (fun x hx => by
    obtain ⟨h0, h1⟩ := hr.mem x hx
    rw [if_pos (decide_eq_true h0), decide_eq_true h1]) (by rw [sizeLineE]; exact hl), bind_ok]
  congr 2
  simp
noncomputable def m_lmod_times (f1 : (List Int)) (g2 : (List Int)) (p3 : Int) : M (List Int) :=
  (M.bind (prep [0] ((List.length f1 : Int) + (List.length g2 : Int))) fun raw4 => (M.bind (M.bind (prangeI (List.length f1 : Int)) fun xs => loopM (fun (raw5 : (List Int)) i6 => (M.bind (M.bind (prangeI (List.length g2 : Int)) fun xs => loopM (fun (raw7 : (List Int)) j8 => (M.bind (M.bind (M.bind (M.bind (pget raw7 (i6 + j8)) fun u11 => M.bind (M.bind (pget f1 i6) fun u9 => M.bind (pget g2 j8) fun u10 => (pmul u9 u10)) fun u12 => ok (u11 + u12)) fun u13 => (pmod u13 p3)) fun u15 => (pset raw7 (i6 + j8) u15)) fun raw14 => ok (raw14))) (raw5) xs) fun raw16 => ok (raw16))) (raw4) xs) fun raw17 => (m_cut raw17)))
theorem lmod_times_ok {f g : List Int} {p : Int} {a b : Nat} (hp : 0 < p) (hf : f.length ≤ 1000000) (hg : g.length ≤ 1000000) (hfa : ∀ x ∈ f, Sm a x) (hgb : ∀ x ∈ g, Sm b x) (hab : a + b < 1000000) : m_lmod_times f g p = ok (modP p (mulP f g)) := by
  unfold m_lmod_times
  have e : ((f.length : Int) + (g.length : Int)) = ((f.length + g.length : Nat) : Int) := by omega
  rw [e, prep0 (by omega), bind_ok]
  simp only [prangeI_nat (show f.length < 2 ^ 62 by omega), prangeI_nat (show g.length < 2 ^ 62 by omega), bind_okS, bind_ret]
  obtain ⟨c, e1, h1, h2, h3⟩ := loopM_inv (f := fun (raw5 : (List Int)) i6 => loopM (fun (raw7 : (List Int)) j8 => (M.bind (M.bind (M.bind (pget raw7 (i6 + j8)) fun u11 => M.bind (M.bind (pget f i6) fun u9 => M.bind (pget g j8) fun u10 => (pmul u9 u10)) fun u12 => ok (u11 + u12)) fun u13 => (pmod u13 p)) fun u15 => (pset raw7 (i6 + j8) u15))) (raw5) (rangeL 0 g.length)) (fun i (c : List Int) => c.length = f.length + g.length ∧ Red p c ∧ CgP p c (mulP (f.take i) g)) (xs := rangeL 0 f.length) (c := List.replicate (f.length + g.length) 0)
    ⟨by simp, fun t => by rw [co_rep0]; exact ⟨by omega, hp⟩, fun t => by rw [co_rep0]; exact Cg.refl _ _⟩ (fun i c x hx ⟨h1, h2, h3⟩ => by
      obtain ⟨rfl, hi⟩ := range_get hx
      obtain ⟨c', e', l', k'⟩ := setInto (N := f.length + g.length) (i := i) (n := g.length) (L := c) (h := fun j x => (x + co f i * co g j) % p) (step := fun (raw7 : (List Int)) j8 => (M.bind (M.bind (M.bind (pget raw7 ((i : Int) + j8)) fun u11 => M.bind (M.bind (pget f (i : Int)) fun u9 => M.bind (pget g j8) fun u10 => (pmul u9 u10)) fun u12 => ok (u11 + u12)) fun u13 => (pmod u13 p)) fun u15 => (pset raw7 ((i : Int) + j8) u15))) h1 (by omega) (fun c j hc hj => by
        rw [show (i : Int) + (j : Int) = ((i + j : Nat) : Int) by omega, pget_co (by omega), bind_ok, pget_co hi, bind_ok, pget_co hj, bind_ok, mul_sm (hfa _ (co_mem hi)) (hgb _ (co_mem hj)) hab, bind_ok, bind_ok, pmod_pos hp, bind_ok, pset_nat (by omega)])
      refine ⟨c', e', l', fun t => ?_, fun t => ?_⟩
      · rw [k']
        split
        · exact ⟨Int.emod_nonneg _ (by omega), Int.emod_lt_of_pos _ hp⟩
        · exact h2 t
      · rw [k', List.take_succ_eq_append_getElem hi, mulP_snoc, List.length_take, Nat.min_eq_left (by omega), ← co_get hi]
        by_cases ht : i ≤ t
        · rw [if_pos ht]
          by_cases ht2 : t < i + g.length
          · rw [if_pos ⟨ht, ht2⟩]; exact (Cg.mod p _).trans ((h3 t).add (Cg.refl p _))
          · rw [if_neg (by omega), co_out (xs := g) (by omega)]; exact (h3 t).trans (Cg.of_eq (by omega))
        · rw [if_neg ht, if_neg (by omega)]; exact (h3 t).trans (Cg.of_eq (by omega)))
  rw [rangeL_len, List.take_length] at h3
  rw [e1, bind_ok, cut_ok]
  congr 1
  exact Cut.eq (cutP_cut _) (modP_cut _ _) fun t => by rw [cutP_co, modP_co]; exact (Cg.iff.mp (h3 t)).symm ▸ (Int.emod_eq_of_lt (h2 t).1 (h2 t).2).symm
end T

set_option maxRecDepth 100000
namespace T
open PySem PySem.Spec PyProof.Rows L2
/-! ### what divides a row modulo p -/
def Dv (p : Int) (C F : List Int) : Prop := ∃ Q, CgP p F (mulP Q C)
section
variable {p : Int} {C F F' G H : List Int}
theorem Dv.congr (h : CgP p F F') : Dv p C F → Dv p C F' := fun ⟨Q, q⟩ => ⟨Q, h.symm.trans q⟩
theorem Dv.add : Dv p C F → Dv p C G → Dv p C (addP F G) := fun ⟨Q, q⟩ ⟨R, r⟩ => ⟨addP Q R, fun t => by rw [addP_co, mulP_add_l]; exact (q t).add (r t)⟩
theorem Dv.mul (Q : List Int) : Dv p C F → Dv p C (mulP Q F) := fun ⟨R, r⟩ => ⟨mulP Q R, (CgP.mul_r r Q).trans (CgP.of fun t => (mulP_assoc R C Q t).symm)⟩
theorem Dv.sub : Dv p C F → Dv p C G → Dv p C (subP F G) := fun h ⟨R, r⟩ => h.add ⟨scaleP (-1) R, fun t => by rw [mulP_scale_l, scaleP_co]; exact (Cg.refl p _).mul (r t)⟩
theorem Dv.zero (C : List Int) (h : ∀ t, Cg p (co F t) 0) : Dv p C F := ⟨[], fun t => h t⟩
theorem mulP_one (x : Int) (G : List Int) (t : Nat) : co (mulP [x] G) t = x * co G t := by
  have := mulP_lead 0 x G t
  rw [if_pos (Nat.zero_le _), Nat.sub_zero] at this
  exact this
theorem Dv.self (C : List Int) : Dv p C C := ⟨[1], CgP.of fun t => by rw [mulP_one]; omega⟩
theorem Dv.trans : Dv p C F → Dv p F G → Dv p C G := fun h ⟨Q, q⟩ => (h.mul Q).congr q.symm
theorem Dv.nil (h : Dv p [] F) : ∀ t, Cg p (co F t) 0 := by
  obtain ⟨Q, q⟩ := h
  intro t
  have := q t
  rwa [mulP_nil_r] at this
end
theorem pget_last {xs : List Int} (h : xs ≠ []) : pget xs (-1) = ok (co xs (xs.length - 1)) := by
  obtain ⟨l, a, rfl⟩ : ∃ l a, xs = l ++ [a] := ⟨xs.dropLast, xs.getLast h, (List.dropLast_concat_getLast h).symm⟩
  unfold pget
  rw [atI_last, List.length_append, co_append_r (by simp)]
  simp [co]
theorem zero_nil {p : Int} {F : List Int} (hc : Cut F) (hr : Red p F) (h : ∀ t, Cg p (co F t) 0) : F = [] := by
  by_cases hn : F = []
  · exact hn
  · have h1 := hc.last hn
    have h2 := (h (F.length - 1)).small (hr _).1 (hr _).2 (by omega) (by have := hr 0; omega)
    exact absurd h2 h1
noncomputable def m_mod_shared (a1 : (List Int)) (b2 : (List Int)) (p3 : Int) : M (List Int) :=
  (M.bind (m_mod_poly a1 p3) fun one4 => (M.bind (m_mod_poly b2 p3) fun two5 => (M.bind (whileM (fun (s6 : (List Int) × (List Int)) => (ok (decide (0 < (List.length s6.2 : Int))))) (fun (s6 : (List Int) × (List Int)) => (M.bind (M.bind (M.bind (m_mod_parted s6.1 s6.2 p3) fun u7 => ok u7.2) fun u9 => ok (s6.2, u9)) fun p8 => ok (p8.1, p8.2))) (one4, two5)) fun s10 => (M.bind (ok (decide ((List.length s10.1 : Int) = 0))) fun z11 => if z11 = true then (ok s10.1) else (M.bind (M.bind (pget s10.1 (-1)) fun u13 => (m_turned u13 p3)) fun back12 => (M.bind (mapC (fun place14 => (pmul place14 back12)) s10.1) fun u15 => (m_mod_poly u15 p3)))))))
theorem mod_shared_ok {f g : List Int} {p : Int} (hP : IsP p) (hf : f.length ≤ 1000) (hg : g.length ≤ 1000) :
    ∃ D, m_mod_shared f g p = ok D ∧ Cut D ∧ Red p D ∧ D.length ≤ 1000 ∧ (D ≠ [] → co D (D.length - 1) = 1) ∧ Dv p D f ∧ Dv p D g ∧ ∀ C, Dv p C f → Dv p C g → Dv p C D := by
  obtain ⟨hp1, hp2, hpc⟩ := hP
  have hp0 : 0 < p := by omega
  have sp : Sm 64 p := Sm.of (A := 1000) (by omega)
  unfold m_mod_shared
  rw [mod_poly_ok hp0 (by omega), bind_ok, mod_poly_ok hp0 (by omega), bind_ok]
  have lf := modP_len p f
  have lg := modP_len p g
  obtain ⟨⟨a, b⟩, e, ⟨i1, i2, i3, i4, i5, i6, i7, i8⟩, q⟩ := whileM_inv (t := fun (s6 : (List Int) × (List Int)) => (ok (decide (0 < (List.length s6.2 : Int))))) (b := fun (s6 : (List Int) × (List Int)) => (M.bind (M.bind (M.bind (m_mod_parted s6.1 s6.2 p) fun u7 => ok u7.2) fun u9 => ok (s6.2, u9)) fun p8 => ok (p8.1, p8.2)))
    (fun s => Cut s.1 ∧ Cut s.2 ∧ Red p s.1 ∧ Red p s.2 ∧ s.1.length ≤ 1000 ∧ s.2.length ≤ 1000 ∧ (∀ D, Dv p D s.1 → Dv p D s.2 → Dv p D f ∧ Dv p D g) ∧ (∀ C, Dv p C f → Dv p C g → Dv p C s.1 ∧ Dv p C s.2)) (fun s => s.2.length) (by
      rintro ⟨a, b⟩ ⟨i1, i2, i3, i4, i5, i6, i7, i8⟩
      dsimp only at i1 i2 i3 i4 i5 i6 i7 i8 ⊢
      by_cases hb : b = []
      · subst hb; exact .inl rfl
      · right
        have bl : 0 < b.length := List.length_pos_iff.mpr hb
        refine ⟨by rw [decide_eq_true (by omega)], ?_⟩
        have ht := i2.last hb
        have hr := i4 (b.length - 1)
        obtain ⟨Q, R, er, cQ, cR, rQ, rR, lR, lQ, hQ⟩ := mod_parted_ok (f := a) (g := b) (G := b) (d := b.length - 1) hp1 (by omega) (modP_eq hp0 i2 i4 (CgP.refl p b)) (by omega) (hpc _ (by rw [Int.emod_eq_of_lt hr.1 hr.2]; exact ht)) (by omega) (by omega)
        rw [er, bind_ok, bind_ok, bind_ok]
        refine ⟨_, rfl, ⟨i2, cR, i4, rR, i6, by dsimp only; omega, fun D d1 d2 => i7 D (((d1.mul Q).add d2).congr hQ.symm) d1, fun C c1 c2 => ?_⟩, by dsimp only; omega⟩
        obtain ⟨k1, k2⟩ := i8 C c1 c2
        refine ⟨k2, (k1.sub (k2.mul Q)).congr fun t => ?_⟩
        have := hQ t
        rw [addP_co] at this
        obtain ⟨z, hz⟩ := this
        rw [subP_co]
        exact ⟨z, by dsimp only; omega⟩) (c := (modP p f, modP p g))
    ⟨modP_cut p f, modP_cut p g, modP_red hp0 f, modP_red hp0 g, by dsimp only; omega, by dsimp only; omega, fun D d1 d2 => ⟨d1.congr (modP_cg p f), d2.congr (modP_cg p g)⟩, fun C c1 c2 => ⟨c1.congr (modP_cg p f).symm, c2.congr (modP_cg p g).symm⟩⟩
  dsimp only at i1 i2 i3 i4 i5 i6 i7 i8 q
  have hb : b = [] := by
    by_cases hb : b = []
    · exact hb
    · have := List.length_pos_iff.mpr hb
      rw [decide_eq_true (by omega)] at q
      cases q
  subst hb
  rw [e, bind_ok]
  dsimp only
  rw [bind_okS]
  by_cases ha : a = []
  · subst ha
    obtain ⟨j1, j2⟩ := i7 [] (Dv.zero [] fun t => Cg.refl _ _) (Dv.zero [] fun t => Cg.refl _ _)
    exact ⟨[], rfl, .inl rfl, i3, Nat.zero_le _, fun z => absurd rfl z, j1, j2, fun C _ _ => Dv.zero C fun t => Cg.refl _ _⟩
  · have al : 0 < a.length := List.length_pos_iff.mpr ha
    have ht := i1.last ha
    have hr := i3 (a.length - 1)
    obtain ⟨t, et, t0, t1, tc⟩ := turned_ok (a := co a (a.length - 1)) hp1 (by omega) (hpc _ (by rw [Int.emod_eq_of_lt hr.1 hr.2]; exact ht))
    have st : Sm 64 t := Nat.le_trans (log2_le (by omega)) sp
    rw [if_neg (by simpa using ha), pget_last ha, bind_ok, et, bind_ok, mapC_ok (g := fun x => x * t) (fun x hx => mul_sm (i3.sm sp x hx) st (by omega)) (by rw [sizeLineE]; omega), bind_ok, mod_poly_ok hp0 (by rw [List.length_map]; omega)]
    generalize hD : modP p (a.map fun x => x * t) = D
    have kD : ∀ k, Cg p (co D k) (co a k * t) := fun k => by
      rw [← hD, modP_co, co_map a (fun x => x * t) (by omega)]
      exact Cg.mod p _
    have rD : Red p D := hD ▸ modP_red hp0 _
    have cD : Cut D := hD ▸ modP_cut _ _
    have topD : co D (a.length - 1) = 1 := ((kD _).trans ((Cg.of_eq (Int.mul_comm _ _)).trans tc)).small (rD _).1 (rD _).2 (by omega) hp1
    have lD : D.length = a.length := by
      have h1 := co_lt (xs := D) (t := a.length - 1) (by rw [topD]; omega)
      have h2 := modP_len p (a.map fun x => x * t)
      rw [hD, List.length_map] at h2
      omega
    have dv1 : Dv p D a := ⟨[co a (a.length - 1)], fun k => by
      rw [mulP_one]
      refine Cg.symm (((Cg.refl p _).mul (kD k)).trans ?_)
      have : co a (a.length - 1) * (co a k * t) = co a k * (t * co a (a.length - 1)) := by grind
      rw [this]
      exact ((Cg.refl p _).mul tc).trans (Cg.of_eq (by omega))⟩
    obtain ⟨j1, j2⟩ := i7 D dv1 (Dv.zero D fun t => Cg.refl _ _)
    refine ⟨D, rfl, cD, rD, by omega, fun _ => by rw [lD]; exact topD, j1, j2, fun C c1 c2 => ?_⟩
    refine ((i8 C c1 c2).1.mul [t]).congr fun k => ?_
    rw [mulP_one]
    exact (Cg.of_eq (Int.mul_comm _ _)).trans (kD k).symm
/-- the law's rest by a monic row -/
noncomputable def m_lmod_rest (f1 : (List Int)) (g2 : (List Int)) (p3 : Int) : M (List Int) :=
  (M.bind (ok f1) fun left4 => (M.bind (whileM (fun (left5 : (List Int)) => (ok (decide ((List.length g2 : Int) ≤ (List.length left5 : Int))))) (fun (left5 : (List Int)) => (M.bind (pget left5 (-1)) fun part6 => (M.bind (ok ((List.length left5 : Int) - (List.length g2 : Int))) fun far7 => (M.bind (M.bind (prangeI (List.length g2 : Int)) fun xs => loopM (fun (left8 : (List Int)) j9 => (M.bind (M.bind (M.bind (M.bind (pget left8 (far7 + j9)) fun u11 => M.bind (M.bind (pget g2 j9) fun u10 => (pmul part6 u10)) fun u12 => ok (u11 - u12)) fun u13 => (pmod u13 p3)) fun u15 => (pset left8 (far7 + j9) u15)) fun left14 => ok (left14))) (left5) xs) fun left16 => (M.bind (ppop left16) fun left17 => ok (left17)))))) (left4)) fun left18 => (m_cut left18)))
theorem lmod_rest_ok {F G : List Int} {p : Int} {d : Nat} (hp : 0 < p) (sp : Sm 64 p) (rF : Red p F) (rG : Red p G) (hd : G.length = d + 1) (h1 : co G d = 1) (hl : F.length ≤ 100000) (hl2 : d ≤ 100000) :
    ∃ R, m_lmod_rest F G p = ok R ∧ Cut R ∧ Red p R ∧ R.length ≤ d ∧ ∃ Q, CgP p F (addP (mulP Q G) R) := by
  unfold m_lmod_rest
  simp only [bind_okS, prangeI_nat (show G.length < 2 ^ 62 by omega), bind_ret]
  obtain ⟨c, e, ⟨i1, i2, Q, i3⟩, q⟩ := whileM_inv (t := fun (left5 : (List Int)) => (ok (decide ((List.length G : Int) ≤ (List.length left5 : Int))))) (b := fun (left5 : (List Int)) => (M.bind (pget left5 (-1)) fun part6 => (M.bind (loopM (fun (left8 : (List Int)) j9 => (M.bind (M.bind (M.bind (pget left8 (((List.length left5 : Int) - (List.length G : Int)) + j9)) fun u11 => M.bind (M.bind (pget G j9) fun u10 => (pmul part6 u10)) fun u12 => ok (u11 - u12)) fun u13 => (pmod u13 p)) fun u15 => (pset left8 (((List.length left5 : Int) - (List.length G : Int)) + j9) u15))) (left5) (rangeL 0 G.length)) fun left16 => ppop left16)))
    (fun c => Red p c ∧ c.length ≤ 100000 ∧ ∃ Q, CgP p F (addP (mulP Q G) c)) (fun c => c.length) (by
      rintro c ⟨i1, i2, Q, i3⟩
      by_cases hc : G.length ≤ c.length
      · right
        refine ⟨by rw [decide_eq_true (by omega)], ?_⟩
        have hn : c ≠ [] := fun z => by rw [z, List.length_nil] at hc; omega
        obtain ⟨a, ha⟩ : ∃ a, c.length = a + (d + 1) := ⟨c.length - (d + 1), by omega⟩
        have hz : (c.length : Int) - (G.length : Int) = (a : Int) := by omega
        rw [pget_last hn, bind_ok, hz]
        generalize hpt : co c (c.length - 1) = pt
        have hptr := i1 (c.length - 1)
        rw [hpt] at hptr
        have spt : Sm 64 pt := Nat.le_trans (log2_le (by omega)) sp
        obtain ⟨L', e', l', k'⟩ := setInto (N := c.length) (i := a) (n := G.length) (L := c) (h := fun j x => (x - pt * co G j) % p) (step := fun (left8 : (List Int)) j9 => (M.bind (M.bind (M.bind (pget left8 ((a : Int) + j9)) fun u11 => M.bind (M.bind (pget G j9) fun u10 => (pmul pt u10)) fun u12 => ok (u11 - u12)) fun u13 => (pmod u13 p)) fun u15 => (pset left8 ((a : Int) + j9) u15))) rfl (by omega) (fun c j hc hj => by
          rw [show (a : Int) + (j : Int) = ((a + j : Nat) : Int) by omega, pget_co (by omega), bind_ok, pget_co hj, bind_ok, mul_sm (j := 64) (k := 64) spt (rG.sm sp _ (co_mem hj)) (by omega), bind_ok, bind_ok, pmod_pos hp, bind_ok, pset_nat (by omega)])
        rw [e', bind_ok]
        have hpop : ppop L' = ok L'.dropLast := grd_pos (by omega) _
        have ltop : co L' (c.length - 1) = 0 := by
          rw [k', if_pos (by omega), hpt, show c.length - 1 - a = d by omega, h1, Int.mul_one, Int.sub_self, Int.zero_emod]
        have hdl : ∀ t, co L'.dropLast t = co L' t := fun t => by
          rw [List.dropLast_eq_take, co_take]
          by_cases ht : t < L'.length - 1
          · rw [if_pos ht]
          · rw [if_neg ht]
            by_cases e : t = c.length - 1
            · rw [e, ltop]
            · rw [co_out (by omega)]
        rw [hpop]
        refine ⟨_, rfl, ⟨fun t => ?_, by rw [List.length_dropLast]; omega, addP Q (List.replicate a 0 ++ [pt]), fun t => ?_⟩, by rw [List.length_dropLast]; omega⟩
        · rw [hdl, k']
          split
          · exact ⟨Int.emod_nonneg _ (by omega), Int.emod_lt_of_pos _ hp⟩
          · exact i1 t
        · have h0 := i3 t
          rw [addP_co] at h0
          rw [addP_co, mulP_add_l, mulP_lead, hdl, k']
          refine h0.trans ?_
          by_cases ht : a ≤ t
          · rw [if_pos ht]
            by_cases ht2 : t < a + G.length
            · rw [if_pos ⟨ht, ht2⟩]
              obtain ⟨z, hz⟩ := Cg.mod p (co c t - pt * co G (t - a))
              exact ⟨-z, by rw [hz]; grind⟩
            · rw [if_neg (by omega), co_out (xs := G) (by omega)]; exact Cg.of_eq (by omega)
          · rw [if_neg ht, if_neg (by omega)]; exact Cg.of_eq (by omega)
      · exact .inl (by rw [decide_eq_false (by omega)])) (c := F) ⟨rF, by omega, [], fun t => by rw [addP_co]; exact Cg.of_eq (by show _ = (0 : Int) + _; omega)⟩
  have hlt : ¬ (G.length : Int) ≤ (c.length : Int) := fun z => by rw [decide_eq_true z] at q; cases q
  rw [e, bind_ok, cut_ok]
  have := cutP_len c
  exact ⟨_, rfl, cutP_cut c, fun t => by rw [cutP_co]; exact i1 t, by omega, Q, i3.trans (CgP.of fun t => by rw [addP_co, addP_co, cutP_co])⟩
theorem lmod_rest_nil {F G : List Int} {p : Int} {d : Nat} (hp : 0 < p) (sp : Sm 64 p) (rF : Red p F) (rG : Red p G) (hd : G.length = d + 1) (h1 : co G d = 1) (hl : F.length ≤ 100000) (hl2 : d ≤ 100000) (hv : Dv p G F) : m_lmod_rest F G p = ok [] := by
  obtain ⟨R, e, cR, rR, lR, Q, hQ⟩ := lmod_rest_ok hp sp rF rG hd h1 hl hl2
  obtain ⟨Q', hQ'⟩ := hv
  obtain ⟨_, z⟩ := div_one (p := p) (G := G) (Q := Q) (Q' := Q') (R := R) (R' := []) (d := d) (b := 1) hp hd (by rw [h1]; exact Cg.refl _ _) (hQ.symm.trans (hQ'.trans (CgP.of fun t => by rw [addP_co, co_nil]; omega))) (fun t ht => co_out (by omega)) (fun t _ => rfl)
  rw [e, zero_nil cR rR z]
end T

set_option maxRecDepth 100000
namespace T
open PySem PySem.Spec PyProof.Rows L2
/-! ### the determinant by the program -/
noncomputable def m_det_L : Nat → (List (List Int)) →  M Int
  | 0, _ => stuck
  | n + 1, table1 =>
  (M.bind (ok (decide ((List.length table1 : Int) = 1))) fun z2 => if z2 = true then (M.bind (pget table1 0) fun u3 => (pget u3 0)) else (M.bind (ok 0) fun total4 => (M.bind (M.bind (prangeI (List.length table1 : Int)) fun xs => loopM (fun (total5 : Int) i6 => (M.bind (M.bind (M.bind (pget table1 i6) fun u7 => (pget u7 0)) fun u8 => ok ((!decide (u8 = 0)))) fun z9 => if z9 = true then (M.bind (M.bind (pcat (cutL table1 none (some i6)) (cutL table1 (some (i6 + 1)) none)) fun xs => mapC (fun row11 => (ok (cutL row11 (some 1) none))) xs) fun lower10 => (M.bind (M.bind (M.bind (pget table1 i6) fun u13 => (pget u13 0)) fun u14 => M.bind (m_det_L n lower10) fun u15 => (pmul u14 u15)) fun part12 => (M.bind (M.bind (ok (decide ((i6 % 2) = 1))) fun z16 => if z16 = true then (M.bind (ok (-part12)) fun part17 => ok (part17)) else ok (part12)) fun part18 => (M.bind (ok (total5 + part18)) fun total19 => ok (total19))))) else ok (total5))) (total4) xs) fun total20 => (ok total20))))
noncomputable def m_det (table1 : (List (List Int))) : M Int :=
  (M.bind (ok (decide ((List.length table1 : Int) = 1))) fun z2 => if z2 = true then (M.bind (pget table1 0) fun u3 => (pget u3 0)) else (M.bind (ok 0) fun total4 => (M.bind (M.bind (prangeI (List.length table1 : Int)) fun xs => loopM (fun (total5 : Int) i6 => (M.bind (M.bind (M.bind (pget table1 i6) fun u7 => (pget u7 0)) fun u8 => ok ((!decide (u8 = 0)))) fun z9 => if z9 = true then (M.bind (M.bind (pcat (cutL table1 none (some i6)) (cutL table1 (some (i6 + 1)) none)) fun xs => mapC (fun row11 => (ok (cutL row11 (some 1) none))) xs) fun lower10 => (M.bind (M.bind (M.bind (pget table1 i6) fun u13 => (pget u13 0)) fun u14 => M.bind (m_det_L 5 lower10) fun u15 => (pmul u14 u15)) fun part12 => (M.bind (M.bind (ok (decide ((i6 % 2) = 1))) fun z16 => if z16 = true then (M.bind (ok (-part12)) fun part17 => ok (part17)) else ok (part12)) fun part18 => (M.bind (ok (total5 + part18)) fun total19 => ok (total19))))) else ok (total5))) (total4) xs) fun total20 => (ok total20))))
noncomputable def m_lower (table1 : List (List Int)) (i6 : Int) : M (List (List Int)) := (M.bind (pcat (cutL table1 none (some i6)) (cutL table1 (some (i6 + 1)) none)) fun xs => mapC (fun row11 => (ok (cutL row11 (some 1) none))) xs)
noncomputable def m_dbody (n : Nat) (table1 : List (List Int)) (total5 i6 : Int) : M Int :=
  (M.bind (M.bind (M.bind (pget table1 i6) fun u7 => (pget u7 0)) fun u8 => ok ((!decide (u8 = 0)))) fun z9 => if z9 = true then (M.bind (m_lower table1 i6) fun lower10 => (M.bind (M.bind (M.bind (pget table1 i6) fun u13 => (pget u13 0)) fun u14 => M.bind (m_det_L n lower10) fun u15 => (pmul u14 u15)) fun part12 => (M.bind (M.bind (ok (decide ((i6 % 2) = 1))) fun z16 => if z16 = true then (M.bind (ok (-part12)) fun part17 => ok (part17)) else ok (part12)) fun part18 => (M.bind (ok (total5 + part18)) fun total19 => ok (total19))))) else ok (total5))
theorem detL_one (n : Nat) (a : Int) : m_det_L (n + 1) [[a]] = ok a := by
  rw [m_det_L]
  simp only [bind_okS]
  rw [if_pos (by simp)]
  rfl
theorem detL_eq (n : Nat) (r1 r2 : List Int) (rs : List (List Int)) (hl : rs.length ≤ 1000) : m_det_L (n + 1) (r1 :: r2 :: rs) = loopM (m_dbody n (r1 :: r2 :: rs)) 0 (rangeL 0 (rs.length + 2)) := by
  rw [m_det_L]
  simp only [bind_okS, bind_ret]
  rw [if_neg (by rw [List.length_cons, List.length_cons, decide_eq_true_eq]; omega), List.length_cons, List.length_cons, prangeI_nat (by omega), bind_ok]
  rfl
theorem det_one (a : Int) : m_det [[a]] = ok a := by
  unfold m_det
  simp only [bind_okS]
  rw [if_pos (by simp)]
  rfl
theorem det_eq (r1 r2 : List Int) (rs : List (List Int)) (hl : rs.length ≤ 1000) : m_det (r1 :: r2 :: rs) = loopM (m_dbody 5 (r1 :: r2 :: rs)) 0 (rangeL 0 (rs.length + 2)) := by
  unfold m_det
  simp only [bind_okS, bind_ret]
  rw [if_neg (by rw [List.length_cons, List.length_cons, decide_eq_true_eq]; omega), List.length_cons, List.length_cons, prangeI_nat (by omega), bind_ok]
  rfl
theorem dstep {n : Nat} {table lower : List (List Int)} {i x D : Int} (T : Int) (hx : (M.bind (pget table i) fun u => pget u 0) = ok x) (hl : m_lower table i = ok lower) (hd : m_det_L n lower = ok D) (hp : pmul x D = ok (x * D)) :
    m_dbody n table T i = ok (T + (if i % 2 = 1 then -(x * D) else x * D)) := by
  unfold m_dbody
  rw [hx, bind_ok, bind_ok]
  by_cases h0 : x = 0
  · subst h0
    rw [if_neg (by simp), Int.zero_mul]
    congr 1
    split <;> omega
  · rw [if_pos (by simpa using h0), hl, bind_ok, bind_ok, hd, bind_ok, hp, bind_ok, bind_ok]
    by_cases h1 : i % 2 = 1
    · rw [if_pos (decide_eq_true h1), if_pos h1]; rfl
    · rw [if_neg (by simpa using h1), if_neg h1]; rfl

theorem sz2 {a b c d : Int} (ha : Sm 1000 a) (hb : Sm 1000 b) (hc : Sm 1000 c) (hd : Sm 1000 d) : Sm 2003 (((0 + a * (d)) + -(c * (b)))) := by
  have z : Sm 0 0 := by unfold Sm; decide
  have p0 := Sm.mul ha hd
  have q0 := Sm.add z p0
  have p1 := Sm.mul hc hb
  have q1 := Sm.add q0 p1.neg
  exact q1.mono (by decide)
theorem detL2 (k : Nat) {a b c d : Int} (ha : Sm 1000 a) (hb : Sm 1000 b) (hc : Sm 1000 c) (hd : Sm 1000 d) : m_det_L (k + 2) [[a, b], [c, d]] = ok ((0 + a * (d)) + -(c * (b))) := by
  rw [detL_eq (k + 1) _ _ _ (by simp)]
  show loopM _ 0 [0, 1] = _
  have e0 : ∀ T : Int, m_dbody (k + 1) [[a, b], [c, d]] T 0 = ok (T + a * (d)) := fun T => dstep T (lower := [[d]]) rfl (by kernel_rfl) (detL_one k d) (mul_sm ha hd (by decide))
  have e1 : ∀ T : Int, m_dbody (k + 1) [[a, b], [c, d]] T 1 = ok (T + -(c * (b))) := fun T => dstep T (lower := [[b]]) rfl (by kernel_rfl) (detL_one k b) (mul_sm hc hb (by decide))
  simp only [loopM_cons, loopM_nil, bind_okS, e0, e1]
theorem detD2 {a b c d : Int} (ha : Sm 1000 a) (hb : Sm 1000 b) (hc : Sm 1000 c) (hd : Sm 1000 d) : m_det [[a, b], [c, d]] = ok ((0 + a * (d)) + -(c * (b))) := by
  rw [det_eq _ _ _ (by simp)]
  show loopM _ 0 [0, 1] = _
  have e0 : ∀ T : Int, m_dbody (5) [[a, b], [c, d]] T 0 = ok (T + a * (d)) := fun T => dstep T (lower := [[d]]) rfl (by kernel_rfl) (detL_one 4 d) (mul_sm ha hd (by decide))
  have e1 : ∀ T : Int, m_dbody (5) [[a, b], [c, d]] T 1 = ok (T + -(c * (b))) := fun T => dstep T (lower := [[b]]) rfl (by kernel_rfl) (detL_one 4 b) (mul_sm hc hb (by decide))
  simp only [loopM_cons, loopM_nil, bind_okS, e0, e1]
theorem sz3 {a b c d e f g h i : Int} (ha : Sm 1000 a) (hb : Sm 1000 b) (hc : Sm 1000 c) (hd : Sm 1000 d) (he : Sm 1000 e) (hf : Sm 1000 f) (hg : Sm 1000 g) (hh : Sm 1000 h) (hi : Sm 1000 i) : Sm 3007 ((((0 + a * (((0 + e * (i)) + -(h * (f))))) + -(d * (((0 + b * (i)) + -(h * (c)))))) + g * (((0 + b * (f)) + -(e * (c)))))) := by
  have z : Sm 0 0 := by unfold Sm; decide
  have p0 := Sm.mul ha (sz2 he hf hh hi)
  have q0 := Sm.add z p0
  have p1 := Sm.mul hd (sz2 hb hc hh hi)
  have q1 := Sm.add q0 p1.neg
  have p2 := Sm.mul hg (sz2 hb hc he hf)
  have q2 := Sm.add q1 p2
  exact q2.mono (by decide)
theorem detL3 (k : Nat) {a b c d e f g h i : Int} (ha : Sm 1000 a) (hb : Sm 1000 b) (hc : Sm 1000 c) (hd : Sm 1000 d) (he : Sm 1000 e) (hf : Sm 1000 f) (hg : Sm 1000 g) (hh : Sm 1000 h) (hi : Sm 1000 i) : m_det_L (k + 3) [[a, b, c], [d, e, f], [g, h, i]] = ok (((0 + a * (((0 + e * (i)) + -(h * (f))))) + -(d * (((0 + b * (i)) + -(h * (c)))))) + g * (((0 + b * (f)) + -(e * (c))))) := by
  rw [detL_eq (k + 2) _ _ _ (by simp)]
  show loopM _ 0 [0, 1, 2] = _
  have e0 : ∀ T : Int, m_dbody (k + 2) [[a, b, c], [d, e, f], [g, h, i]] T 0 = ok (T + a * (((0 + e * (i)) + -(h * (f))))) := fun T => dstep T (lower := [[e, f], [h, i]]) rfl (by kernel_rfl) (detL2 k he hf hh hi) (mul_sm ha (sz2 he hf hh hi) (by decide))
  have e1 : ∀ T : Int, m_dbody (k + 2) [[a, b, c], [d, e, f], [g, h, i]] T 1 = ok (T + -(d * (((0 + b * (i)) + -(h * (c)))))) := fun T => dstep T (lower := [[b, c], [h, i]]) rfl (by kernel_rfl) (detL2 k hb hc hh hi) (mul_sm hd (sz2 hb hc hh hi) (by decide))
  have e2 : ∀ T : Int, m_dbody (k + 2) [[a, b, c], [d, e, f], [g, h, i]] T 2 = ok (T + g * (((0 + b * (f)) + -(e * (c))))) := fun T => dstep T (lower := [[b, c], [e, f]]) rfl (by kernel_rfl) (detL2 k hb hc he hf) (mul_sm hg (sz2 hb hc he hf) (by decide))
  simp only [loopM_cons, loopM_nil, bind_okS, e0, e1, e2]
theorem detD3 {a b c d e f g h i : Int} (ha : Sm 1000 a) (hb : Sm 1000 b) (hc : Sm 1000 c) (hd : Sm 1000 d) (he : Sm 1000 e) (hf : Sm 1000 f) (hg : Sm 1000 g) (hh : Sm 1000 h) (hi : Sm 1000 i) : m_det [[a, b, c], [d, e, f], [g, h, i]] = ok (((0 + a * (((0 + e * (i)) + -(h * (f))))) + -(d * (((0 + b * (i)) + -(h * (c)))))) + g * (((0 + b * (f)) + -(e * (c))))) := by
  rw [det_eq _ _ _ (by simp)]
  show loopM _ 0 [0, 1, 2] = _
  have e0 : ∀ T : Int, m_dbody (5) [[a, b, c], [d, e, f], [g, h, i]] T 0 = ok (T + a * (((0 + e * (i)) + -(h * (f))))) := fun T => dstep T (lower := [[e, f], [h, i]]) rfl (by kernel_rfl) (detL2 3 he hf hh hi) (mul_sm ha (sz2 he hf hh hi) (by decide))
  have e1 : ∀ T : Int, m_dbody (5) [[a, b, c], [d, e, f], [g, h, i]] T 1 = ok (T + -(d * (((0 + b * (i)) + -(h * (c)))))) := fun T => dstep T (lower := [[b, c], [h, i]]) rfl (by kernel_rfl) (detL2 3 hb hc hh hi) (mul_sm hd (sz2 hb hc hh hi) (by decide))
  have e2 : ∀ T : Int, m_dbody (5) [[a, b, c], [d, e, f], [g, h, i]] T 2 = ok (T + g * (((0 + b * (f)) + -(e * (c))))) := fun T => dstep T (lower := [[b, c], [e, f]]) rfl (by kernel_rfl) (detL2 3 hb hc he hf) (mul_sm hg (sz2 hb hc he hf) (by decide))
  simp only [loopM_cons, loopM_nil, bind_okS, e0, e1, e2]
theorem sz4 {a b c d e f g h i j k l m n o p : Int} (ha : Sm 1000 a) (hb : Sm 1000 b) (hc : Sm 1000 c) (hd : Sm 1000 d) (he : Sm 1000 e) (hf : Sm 1000 f) (hg : Sm 1000 g) (hh : Sm 1000 h) (hi : Sm 1000 i) (hj : Sm 1000 j) (hk : Sm 1000 k) (hl : Sm 1000 l) (hm : Sm 1000 m) (hn : Sm 1000 n) (ho : Sm 1000 o) (hp : Sm 1000 p) : Sm 4012 (((((0 + a * ((((0 + f * (((0 + k * (p)) + -(o * (l))))) + -(j * (((0 + g * (p)) + -(o * (h)))))) + n * (((0 + g * (l)) + -(k * (h))))))) + -(e * ((((0 + b * (((0 + k * (p)) + -(o * (l))))) + -(j * (((0 + c * (p)) + -(o * (d)))))) + n * (((0 + c * (l)) + -(k * (d)))))))) + i * ((((0 + b * (((0 + g * (p)) + -(o * (h))))) + -(f * (((0 + c * (p)) + -(o * (d)))))) + n * (((0 + c * (h)) + -(g * (d))))))) + -(m * ((((0 + b * (((0 + g * (l)) + -(k * (h))))) + -(f * (((0 + c * (l)) + -(k * (d)))))) + j * (((0 + c * (h)) + -(g * (d))))))))) := by
  have z : Sm 0 0 := by unfold Sm; decide
  have p0 := Sm.mul ha (sz3 hf hg hh hj hk hl hn ho hp)
  have q0 := Sm.add z p0
  have p1 := Sm.mul he (sz3 hb hc hd hj hk hl hn ho hp)
  have q1 := Sm.add q0 p1.neg
  have p2 := Sm.mul hi (sz3 hb hc hd hf hg hh hn ho hp)
  have q2 := Sm.add q1 p2
  have p3 := Sm.mul hm (sz3 hb hc hd hf hg hh hj hk hl)
  have q3 := Sm.add q2 p3.neg
  exact q3.mono (by decide)
theorem detD4 {a b c d e f g h i j k l m n o p : Int} (ha : Sm 1000 a) (hb : Sm 1000 b) (hc : Sm 1000 c) (hd : Sm 1000 d) (he : Sm 1000 e) (hf : Sm 1000 f) (hg : Sm 1000 g) (hh : Sm 1000 h) (hi : Sm 1000 i) (hj : Sm 1000 j) (hk : Sm 1000 k) (hl : Sm 1000 l) (hm : Sm 1000 m) (hn : Sm 1000 n) (ho : Sm 1000 o) (hp : Sm 1000 p) : m_det [[a, b, c, d], [e, f, g, h], [i, j, k, l], [m, n, o, p]] = ok ((((0 + a * ((((0 + f * (((0 + k * (p)) + -(o * (l))))) + -(j * (((0 + g * (p)) + -(o * (h)))))) + n * (((0 + g * (l)) + -(k * (h))))))) + -(e * ((((0 + b * (((0 + k * (p)) + -(o * (l))))) + -(j * (((0 + c * (p)) + -(o * (d)))))) + n * (((0 + c * (l)) + -(k * (d)))))))) + i * ((((0 + b * (((0 + g * (p)) + -(o * (h))))) + -(f * (((0 + c * (p)) + -(o * (d)))))) + n * (((0 + c * (h)) + -(g * (d))))))) + -(m * ((((0 + b * (((0 + g * (l)) + -(k * (h))))) + -(f * (((0 + c * (l)) + -(k * (d)))))) + j * (((0 + c * (h)) + -(g * (d)))))))) := by
  rw [det_eq _ _ _ (by simp)]
  show loopM _ 0 [0, 1, 2, 3] = _
  have e0 : ∀ T : Int, m_dbody (5) [[a, b, c, d], [e, f, g, h], [i, j, k, l], [m, n, o, p]] T 0 = ok (T + a * ((((0 + f * (((0 + k * (p)) + -(o * (l))))) + -(j * (((0 + g * (p)) + -(o * (h)))))) + n * (((0 + g * (l)) + -(k * (h))))))) := fun T => dstep T (lower := [[f, g, h], [j, k, l], [n, o, p]]) rfl (by kernel_rfl) (detL3 2 hf hg hh hj hk hl hn ho hp) (mul_sm ha (sz3 hf hg hh hj hk hl hn ho hp) (by decide))
  have e1 : ∀ T : Int, m_dbody (5) [[a, b, c, d], [e, f, g, h], [i, j, k, l], [m, n, o, p]] T 1 = ok (T + -(e * ((((0 + b * (((0 + k * (p)) + -(o * (l))))) + -(j * (((0 + c * (p)) + -(o * (d)))))) + n * (((0 + c * (l)) + -(k * (d)))))))) := fun T => dstep T (lower := [[b, c, d], [j, k, l], [n, o, p]]) rfl (by kernel_rfl) (detL3 2 hb hc hd hj hk hl hn ho hp) (mul_sm he (sz3 hb hc hd hj hk hl hn ho hp) (by decide))
  have e2 : ∀ T : Int, m_dbody (5) [[a, b, c, d], [e, f, g, h], [i, j, k, l], [m, n, o, p]] T 2 = ok (T + i * ((((0 + b * (((0 + g * (p)) + -(o * (h))))) + -(f * (((0 + c * (p)) + -(o * (d)))))) + n * (((0 + c * (h)) + -(g * (d))))))) := fun T => dstep T (lower := [[b, c, d], [f, g, h], [n, o, p]]) rfl (by kernel_rfl) (detL3 2 hb hc hd hf hg hh hn ho hp) (mul_sm hi (sz3 hb hc hd hf hg hh hn ho hp) (by decide))
  have e3 : ∀ T : Int, m_dbody (5) [[a, b, c, d], [e, f, g, h], [i, j, k, l], [m, n, o, p]] T 3 = ok (T + -(m * ((((0 + b * (((0 + g * (l)) + -(k * (h))))) + -(f * (((0 + c * (l)) + -(k * (d)))))) + j * (((0 + c * (h)) + -(g * (d)))))))) := fun T => dstep T (lower := [[b, c, d], [f, g, h], [j, k, l]]) rfl (by kernel_rfl) (detL3 2 hb hc hd hf hg hh hj hk hl) (mul_sm hm (sz3 hb hc hd hf hg hh hj hk hl) (by decide))
  simp only [loopM_cons, loopM_nil, bind_okS, e0, e1, e2, e3]
end T

set_option maxRecDepth 100000
namespace T
open PySem PySem.Spec PyProof.Rows L2
/-! ### the measure of a polynomial of degree 2, 3 or 4 -/
def c_LARGEST : Int := 499
noncomputable def m_check_poly (poly1 : (List Int)) : M Unit :=
  (M.bind (M.bind (if (decide (3 ≤ (List.length poly1 : Int))) = true then ok (decide ((List.length poly1 : Int) ≤ 5)) else ok false) fun z7 => if z7 = true then (M.bind (pget poly1 (-1)) fun u6 => ok (decide (u6 = 1))) else ok false) fun good2 => (M.bind (M.bind (ok good2) fun z8 => if z8 = true then (M.bind (M.bind (ok poly1) fun xs => loopM (fun (good9 : Bool) place10 => (M.bind (M.bind (ok (decide (place10 < (-c_LARGEST)))) fun z11 => if z11 = true then ok true else (ok (decide (c_LARGEST < place10)))) fun z12 => if z12 = true then (M.bind (ok false) fun good13 => ok (good13)) else ok (good9))) (good2) xs) fun good14 => ok (good14)) else ok (good2)) fun good15 => (M.bind (ok (!good15)) fun z16 => if z16 = true then (exc ⟨"NoPolynomial", []⟩) else ok ())))
noncomputable def m_power_sums (poly1 : (List Int)) (many2 : Int) : M (List Int) :=
  (M.bind (ok ((List.length poly1 : Int) - 1)) fun degree3 => (M.bind (ok [degree3]) fun sums4 => (M.bind (M.bind (prange2 1 many2) fun xs => loopM (fun (sums5 : (List Int)) k6 => (M.bind (ok 0) fun total7 => (M.bind (M.bind (prange2 1 (min k6 (degree3 + 1))) fun xs => loopM (fun (total8 : Int) i9 => (M.bind (M.bind (M.bind (pget poly1 (degree3 - i9)) fun u11 => M.bind (pget sums5 (k6 - i9)) fun u12 => (pmul u11 u12)) fun u13 => ok (total8 - u13)) fun total10 => ok (total10))) (total7) xs) fun total14 => (M.bind (M.bind (ok (decide (k6 ≤ degree3))) fun z15 => if z15 = true then (M.bind (M.bind (M.bind (pget poly1 (degree3 - k6)) fun u17 => (pmul k6 u17)) fun u18 => ok (total14 - u18)) fun total16 => ok (total16)) else ok (total14)) fun total19 => (M.bind (papp sums5 total19) fun sums20 => ok (sums20)))))) (sums4) xs) fun sums21 => ok sums21)))
noncomputable def m_measure (poly1 : (List Int)) : M Int :=
  (M.bind (M.bind (m_check_poly poly1) fun _ => ok ()) fun _ => (M.bind (ok ((List.length poly1 : Int) - 1)) fun degree2 => (M.bind (m_power_sums poly1 ((2 * degree2) - 1)) fun sums3 => (M.bind (ok ([] : List (List Int))) fun rows4 => (M.bind (M.bind (prangeI degree2) fun xs => loopM (fun (rows5 : (List (List Int))) i6 => (M.bind (M.bind (M.bind (prangeI degree2) fun xs => mapC (fun j7 => (pget sums3 (i6 + j7))) xs) fun u8 => (papp rows5 u8)) fun rows9 => ok (rows9))) (rows4) xs) fun rows10 => (m_det rows10))))))
section
variable {α : Type} (x0 x1 x2 x3 x4 x5 x6 : α) (l : List α)
theorem pg0 : pget (x0 :: l) 0 = ok x0 := pget_some (i := 0) rfl
theorem pg1 : pget (x0 :: x1 :: l) 1 = ok x1 := pget_some (i := 1) rfl
theorem pg2 : pget (x0 :: x1 :: x2 :: l) 2 = ok x2 := pget_some (i := 2) rfl
theorem pg3 : pget (x0 :: x1 :: x2 :: x3 :: l) 3 = ok x3 := pget_some (i := 3) rfl
theorem pg4 : pget (x0 :: x1 :: x2 :: x3 :: x4 :: l) 4 = ok x4 := pget_some (i := 4) rfl
theorem pg5 : pget (x0 :: x1 :: x2 :: x3 :: x4 :: x5 :: l) 5 = ok x5 := pget_some (i := 5) rfl
theorem pg6 : pget (x0 :: x1 :: x2 :: x3 :: x4 :: x5 :: x6 :: l) 6 = ok x6 := pget_some (i := 6) rfl
end
theorem r2 (n : Nat) (h : n < 1000) : prange2 1 (n : Int) = ok (rangeL 1 (n - 1)) := by
  have e : (2 : Int) ^ 62 = 4611686018427387904 := by decide
  refine (grd_pos ?_ _).trans ?_
  · rw [e]; omega
  · congr 2; omega
theorem r2_1 : prange2 1 1 = ok [] := r2 1 (by decide)
theorem r2_2 : prange2 1 2 = ok [1] := r2 2 (by decide)
theorem r2_3 : prange2 1 3 = ok [1, 2] := r2 3 (by decide)
theorem r2_4 : prange2 1 4 = ok [1, 2, 3] := r2 4 (by decide)
theorem r2_5 : prange2 1 5 = ok [1, 2, 3, 4] := r2 5 (by decide)
theorem r2_7 : prange2 1 7 = ok [1, 2, 3, 4, 5, 6] := r2 7 (by decide)
theorem sm1 {x : Int} (h : x.natAbs ≤ 499) : ∀ y, pmul x y = ok (x * y) := fun y => pmul_left (by rw [pow64]; omega)
theorem pa {x : Int} {l : List Int} (h : l.length < 100) : papp l x = ok (l ++ [x]) := papp_ok (by omega)
theorem mn (i j : Int) (h : i ≤ j) : min i j = i := Int.min_eq_left h
theorem mx (i j : Int) (h : j ≤ i) : min i j = j := Int.min_eq_right h
theorem ps2 {a b : Int} (ha : a.natAbs ≤ 499) (hb : b.natAbs ≤ 499) : ∃ s1 s2, m_power_sums [a, b, 1] 3 = ok [2, s1, s2] ∧ s1 = 0 - 1 * b ∧ s2 = 0 - b * s1 - 2 * a := by
  refine ⟨_, _, ?_, rfl, rfl⟩
  unfold m_power_sums
  have h1 := sm1 (x := 1) (by decide)
  have h2 := sm1 (x := 2) (by decide)
  simp only [List.length_cons, List.length_nil, bind_okS, r2_3]
  simp [loopM_cons, loopM_nil, bind_okS, r2_1, r2_2, r2_3, pg0, pg1, pg2, sm1 ha, sm1 hb, h1, h2, pa, bind_ret, mn 1 3, mn 2 3]
theorem ps3 {a b c : Int} (ha : a.natAbs ≤ 499) (hb : b.natAbs ≤ 499) (hc : c.natAbs ≤ 499) : ∃ s1 s2 s3 s4, m_power_sums [a, b, c, 1] 5 = ok [3, s1, s2, s3, s4] ∧ s1 = 0 - 1 * c ∧ s2 = 0 - c * s1 - 2 * b ∧ s3 = 0 - c * s2 - b * s1 - 3 * a ∧ s4 = 0 - c * s3 - b * s2 - a * s1 := by
  refine ⟨_, _, _, _, ?_, rfl, rfl, rfl, rfl⟩
  unfold m_power_sums
  have h1 := sm1 (x := 1) (by decide)
  have h2 := sm1 (x := 2) (by decide)
  have h3 := sm1 (x := 3) (by decide)
  simp only [List.length_cons, List.length_nil, bind_okS, r2_5]
  simp [loopM_cons, loopM_nil, bind_okS, r2_1, r2_2, r2_3, r2_4, pg0, pg1, pg2, pg3, sm1 ha, sm1 hb, sm1 hc, h1, h2, h3, pa, bind_ret, mn 1 4, mn 2 4, mn 3 4, mn 4 4]
theorem ps4 {a b c d : Int} (ha : a.natAbs ≤ 499) (hb : b.natAbs ≤ 499) (hc : c.natAbs ≤ 499) (hd : d.natAbs ≤ 499) : ∃ s1 s2 s3 s4 s5 s6, m_power_sums [a, b, c, d, 1] 7 = ok [4, s1, s2, s3, s4, s5, s6] ∧ s1 = 0 - 1 * d ∧ s2 = 0 - d * s1 - 2 * c ∧ s3 = 0 - d * s2 - c * s1 - 3 * b ∧ s4 = 0 - d * s3 - c * s2 - b * s1 - 4 * a ∧ s5 = 0 - d * s4 - c * s3 - b * s2 - a * s1 ∧ s6 = 0 - d * s5 - c * s4 - b * s3 - a * s2 := by
  refine ⟨_, _, _, _, _, _, ?_, rfl, rfl, rfl, rfl, rfl, rfl⟩
  unfold m_power_sums
  have h1 := sm1 (x := 1) (by decide)
  have h2 := sm1 (x := 2) (by decide)
  have h3 := sm1 (x := 3) (by decide)
  have h4 := sm1 (x := 4) (by decide)
  simp only [List.length_cons, List.length_nil, bind_okS, r2_7]
  simp [loopM_cons, loopM_nil, bind_okS, r2_1, r2_2, r2_3, r2_4, r2_5, pg0, pg1, pg2, pg3, pg4, pg5, sm1 ha, sm1 hb, sm1 hc, sm1 hd, h1, h2, h3, h4, pa, bind_ret, mn 1 5, mn 2 5, mn 3 5, mn 4 5, mn 5 5, mx 6 5]
theorem id2 {a b s1 s2 : Int} (e1 : s1 = 0 - 1 * b) (e2 : s2 = 0 - b * s1 - 2 * a) : ((0 + 2 * (s2)) + -(s1 * (s1))) = b * b - 4 * a := by
  subst e1; subst e2; grind
theorem id3 {a b c s1 s2 s3 s4 : Int} (e1 : s1 = 0 - 1 * c) (e2 : s2 = 0 - c * s1 - 2 * b) (e3 : s3 = 0 - c * s2 - b * s1 - 3 * a) (e4 : s4 = 0 - c * s3 - b * s2 - a * s1) :
    3 * (s2 * s4 - s3 * s3) - s1 * (s1 * s4 - s3 * s2) + s2 * (s1 * s3 - s2 * s2) = c * c * b * b - 4 * b * b * b - 4 * c * c * c * a - 27 * a * a + 18 * c * b * a := by
  subst e4; subst e3; subst e2; subst e1; grind
theorem id4 {a b c d s1 s2 s3 s4 s5 s6 : Int} (e1 : s1 = 0 - 1 * d) (e2 : s2 = 0 - d * s1 - 2 * c) (e3 : s3 = 0 - d * s2 - c * s1 - 3 * b) (e4 : s4 = 0 - d * s3 - c * s2 - b * s1 - 4 * a) (e5 : s5 = 0 - d * s4 - c * s3 - b * s2 - a * s1) (e6 : s6 = 0 - d * s5 - c * s4 - b * s3 - a * s2) :
    27 * (4 * (s2 * (s4 * s6 - s5 * s5) - s3 * (s3 * s6 - s5 * s4) + s4 * (s3 * s5 - s4 * s4)) - s1 * (s1 * (s4 * s6 - s5 * s5) - s3 * (s2 * s6 - s5 * s3) + s4 * (s2 * s5 - s4 * s3)) + s2 * (s1 * (s3 * s6 - s4 * s5) - s2 * (s2 * s6 - s5 * s3) + s4 * (s2 * s4 - s3 * s3)) - s3 * (s1 * (s3 * s5 - s4 * s4) - s2 * (s2 * s5 - s4 * s3) + s3 * (s2 * s4 - s3 * s3)))
      = 4 * (12 * a - 3 * d * b + c * c) * (12 * a - 3 * d * b + c * c) * (12 * a - 3 * d * b + c * c) - (72 * c * a + 9 * d * c * b - 27 * b * b - 27 * d * d * a - 2 * c * c * c) * (72 * c * a + 9 * d * c * b - 27 * b * b - 27 * d * d * a - 2 * c * c * c) := by
  subst e6; subst e5; subst e4; subst e3; subst e2; subst e1; grind
theorem check_ok {f : List Int} (h3 : 3 ≤ f.length) (h5 : f.length ≤ 5) (hl : pget f (-1) = ok 1) (hb : ∀ x ∈ f, x.natAbs ≤ 499) : m_check_poly f = ok () := by
  unfold m_check_poly
  have hC : c_LARGEST = 499 := rfl
  rw [if_pos (decide_eq_true (by omega)), bind_okS, decide_eq_true (by omega), if_pos rfl, hl, bind_ok, bind_ok, bind_ok, decide_eq_true rfl, if_pos rfl, bind_ok]
  obtain ⟨c, e, h⟩ := loopM_inv (f := fun (good9 : Bool) place10 => (M.bind (M.bind (ok (decide (place10 < (-c_LARGEST)))) fun z11 => if z11 = true then ok true else (ok (decide (c_LARGEST < place10)))) fun z12 => if z12 = true then (M.bind (ok false) fun good13 => ok (good13)) else ok (good9))) (fun _ g => g = true) (xs := f) (c := true) rfl (fun i c x hx hc => by
    have hx' := hb x (List.mem_of_getElem? hx)
    rw [hC]
    rw [bind_okS, if_neg (by simp; omega), bind_okS, if_neg (by simp; omega)]
    exact ⟨c, rfl, hc⟩)
  rw [e, h]
  rfl
theorem sm10 {x : Int} (h : x.natAbs ≤ 499) : Sm 9 x := Sm.of h
theorem meas2 {a b : Int} (ha : a.natAbs ≤ 499) (hb : b.natAbs ≤ 499) : m_measure [a, b, 1] = ok (b * b - 4 * a) := by
  obtain ⟨s1, s2, e, e1, e2⟩ := ps2 ha hb
  have k1 : Sm 1000 s1 := e1 ▸ ((show Sm 0 0 from Nat.zero_le _).sub ((show Sm 1 1 by unfold Sm; decide).mul (sm10 hb))).mono (by decide)
  have k2 : Sm 1000 s2 := by
    have h1 : Sm 20 s1 := e1 ▸ ((show Sm 0 0 from Nat.zero_le _).sub ((show Sm 1 1 by unfold Sm; decide).mul (sm10 hb))).mono (by decide)
    exact e2 ▸ (((show Sm 0 0 from Nat.zero_le _).sub ((sm10 hb).mul h1)).sub ((show Sm 2 2 by unfold Sm; decide).mul (sm10 ha))).mono (by decide)
  unfold m_measure
  rw [check_ok (by simp) (by simp) (by rfl) (fun x hx => by
    simp only [List.mem_cons, List.not_mem_nil, or_false] at hx
    rcases hx with rfl | rfl | rfl
    · exact ha
    · exact hb
    · decide), bind_ok, bind_ok, bind_okS]
  rw [show m_power_sums [a, b, 1] (2 * ((([a, b, 1] : List Int).length : Int) - 1) - 1) = ok [2, s1, s2] from e, bind_ok, bind_okS]
  rw [show (M.bind (prangeI ((([a, b, 1] : List Int).length : Int) - 1)) fun xs => loopM (fun (rows5 : (List (List Int))) i6 => (M.bind (M.bind (M.bind (prangeI ((([a, b, 1] : List Int).length : Int) - 1)) fun xs => mapC (fun j7 => (pget [2, s1, s2] (i6 + j7))) xs) fun u8 => (papp rows5 u8)) fun rows9 => ok (rows9))) ([] : List (List Int)) xs) = ok [[2, s1], [s1, s2]] by kernel_rfl, bind_ok, detD2 (by unfold Sm; decide) k1 k1 k2, id2 e1 e2]
theorem s0 : Sm 0 0 := Nat.zero_le _
theorem sK {x : Int} (h : x.natAbs ≤ 4) : Sm 2 x := Sm.of h

theorem bounds3 {a b c s1 s2 s3 s4 : Int} (ha : a.natAbs ≤ 499) (hb : b.natAbs ≤ 499) (hc : c.natAbs ≤ 499) (e1 : s1 = 0 - 1 * c) (e2 : s2 = 0 - c * s1 - 2 * b) (e3 : s3 = 0 - c * s2 - b * s1 - 3 * a) (e4 : s4 = 0 - c * s3 - b * s2 - a * s1) : Sm 1000 s1 ∧ Sm 1000 s2 ∧ Sm 1000 s3 ∧ Sm 1000 s4 := by
  have q1 : Sm 13 s1 := by rw [e1]; exact (Sm.sub s0 (Sm.mul (sK (x := 1) (by decide)) (sm10 hc))).mono (by decide)
  have q2 : Sm 25 s2 := by rw [e2]; exact (Sm.sub (Sm.sub s0 (Sm.mul (sm10 hc) q1)) (Sm.mul (sK (x := 2) (by decide)) (sm10 hb))).mono (by decide)
  have q3 : Sm 38 s3 := by rw [e3]; exact (Sm.sub (Sm.sub (Sm.sub s0 (Sm.mul (sm10 hc) q2)) (Sm.mul (sm10 hb) q1)) (Sm.mul (sK (x := 3) (by decide)) (sm10 ha))).mono (by decide)
  have q4 : Sm 51 s4 := by rw [e4]; exact (Sm.sub (Sm.sub (Sm.sub s0 (Sm.mul (sm10 hc) q3)) (Sm.mul (sm10 hb) q2)) (Sm.mul (sm10 ha) q1)).mono (by decide)
  exact ⟨q1.mono (by decide), q2.mono (by decide), q3.mono (by decide), q4.mono (by decide)⟩
theorem meas3 {a b c : Int} (ha : a.natAbs ≤ 499) (hb : b.natAbs ≤ 499) (hc : c.natAbs ≤ 499) : m_measure [a, b, c, 1] = ok (c * c * b * b - 4 * b * b * b - 4 * c * c * c * a - 27 * a * a + 18 * c * b * a) := by
  obtain ⟨s1, s2, s3, s4, e, e1, e2, e3, e4⟩ := ps3 ha hb hc
  obtain ⟨k1, k2, k3, k4⟩ := bounds3 ha hb hc e1 e2 e3 e4
  unfold m_measure
  rw [check_ok (by simp) (by simp) (by rfl) (fun x hx => by
    simp only [List.mem_cons, List.not_mem_nil, or_false] at hx
    rcases hx with rfl | rfl | rfl | rfl
    · exact ha
    · exact hb
    · exact hc
    · decide), bind_ok, bind_ok, bind_okS]
  rw [show m_power_sums [a, b, c, 1] (2 * ((([a, b, c, 1] : List Int).length : Int) - 1) - 1) = ok [3, s1, s2, s3, s4] from e, bind_ok, bind_okS]
  rw [show (M.bind (prangeI ((([a, b, c, 1] : List Int).length : Int) - 1)) fun xs => loopM (fun (rows5 : (List (List Int))) i6 => (M.bind (M.bind (M.bind (prangeI ((([a, b, c, 1] : List Int).length : Int) - 1)) fun xs => mapC (fun j7 => (pget [3, s1, s2, s3, s4] (i6 + j7))) xs) fun u8 => (papp rows5 u8)) fun rows9 => ok (rows9))) ([] : List (List Int)) xs) = ok [[3, s1, s2], [s1, s2, s3], [s2, s3, s4]] by kernel_rfl, bind_ok]
  rw [detD3 (by unfold Sm; decide) k1 k2 k1 k2 k3 k2 k3 k4]
  congr 1
  rw [← id3 e1 e2 e3 e4]
  grind
theorem bounds4 {a b c d s1 s2 s3 s4 s5 s6 : Int} (ha : a.natAbs ≤ 499) (hb : b.natAbs ≤ 499) (hc : c.natAbs ≤ 499) (hd : d.natAbs ≤ 499) (e1 : s1 = 0 - 1 * d) (e2 : s2 = 0 - d * s1 - 2 * c) (e3 : s3 = 0 - d * s2 - c * s1 - 3 * b) (e4 : s4 = 0 - d * s3 - c * s2 - b * s1 - 4 * a) (e5 : s5 = 0 - d * s4 - c * s3 - b * s2 - a * s1) (e6 : s6 = 0 - d * s5 - c * s4 - b * s3 - a * s2) : Sm 1000 s1 ∧ Sm 1000 s2 ∧ Sm 1000 s3 ∧ Sm 1000 s4 ∧ Sm 1000 s5 ∧ Sm 1000 s6 := by
  have q1 : Sm 13 s1 := by rw [e1]; exact (Sm.sub s0 (Sm.mul (sK (x := 1) (by decide)) (sm10 hd))).mono (by decide)
  have q2 : Sm 25 s2 := by rw [e2]; exact (Sm.sub (Sm.sub s0 (Sm.mul (sm10 hd) q1)) (Sm.mul (sK (x := 2) (by decide)) (sm10 hc))).mono (by decide)
  have q3 : Sm 38 s3 := by rw [e3]; exact (Sm.sub (Sm.sub (Sm.sub s0 (Sm.mul (sm10 hd) q2)) (Sm.mul (sm10 hc) q1)) (Sm.mul (sK (x := 3) (by decide)) (sm10 hb))).mono (by decide)
  have q4 : Sm 52 s4 := by rw [e4]; exact (Sm.sub (Sm.sub (Sm.sub (Sm.sub s0 (Sm.mul (sm10 hd) q3)) (Sm.mul (sm10 hc) q2)) (Sm.mul (sm10 hb) q1)) (Sm.mul (sK (x := 4) (by decide)) (sm10 ha))).mono (by decide)
  have q5 : Sm 66 s5 := by rw [e5]; exact (Sm.sub (Sm.sub (Sm.sub (Sm.sub s0 (Sm.mul (sm10 hd) q4)) (Sm.mul (sm10 hc) q3)) (Sm.mul (sm10 hb) q2)) (Sm.mul (sm10 ha) q1)).mono (by decide)
  have q6 : Sm 80 s6 := by rw [e6]; exact (Sm.sub (Sm.sub (Sm.sub (Sm.sub s0 (Sm.mul (sm10 hd) q5)) (Sm.mul (sm10 hc) q4)) (Sm.mul (sm10 hb) q3)) (Sm.mul (sm10 ha) q2)).mono (by decide)
  exact ⟨q1.mono (by decide), q2.mono (by decide), q3.mono (by decide), q4.mono (by decide), q5.mono (by decide), q6.mono (by decide)⟩
theorem meas4 {a b c d : Int} (ha : a.natAbs ≤ 499) (hb : b.natAbs ≤ 499) (hc : c.natAbs ≤ 499) (hd : d.natAbs ≤ 499) : m_measure [a, b, c, d, 1] = ok ((4 * (12 * a - 3 * d * b + c * c) * (12 * a - 3 * d * b + c * c) * (12 * a - 3 * d * b + c * c) - (72 * c * a + 9 * d * c * b - 27 * b * b - 27 * d * d * a - 2 * c * c * c) * (72 * c * a + 9 * d * c * b - 27 * b * b - 27 * d * d * a - 2 * c * c * c)) / 27) := by
  obtain ⟨s1, s2, s3, s4, s5, s6, e, e1, e2, e3, e4, e5, e6⟩ := ps4 ha hb hc hd
  obtain ⟨k1, k2, k3, k4, k5, k6⟩ := bounds4 ha hb hc hd e1 e2 e3 e4 e5 e6
  unfold m_measure
  rw [check_ok (by simp) (by simp) (by rfl) (fun x hx => by
    simp only [List.mem_cons, List.not_mem_nil, or_false] at hx
    rcases hx with rfl | rfl | rfl | rfl | rfl
    · exact ha
    · exact hb
    · exact hc
    · exact hd
    · decide), bind_ok, bind_ok, bind_okS]
  rw [show m_power_sums [a, b, c, d, 1] (2 * ((([a, b, c, d, 1] : List Int).length : Int) - 1) - 1) = ok [4, s1, s2, s3, s4, s5, s6] from e, bind_ok, bind_okS]
  rw [show (M.bind (prangeI ((([a, b, c, d, 1] : List Int).length : Int) - 1)) fun xs => loopM (fun (rows5 : (List (List Int))) i6 => (M.bind (M.bind (M.bind (prangeI ((([a, b, c, d, 1] : List Int).length : Int) - 1)) fun xs => mapC (fun j7 => (pget [4, s1, s2, s3, s4, s5, s6] (i6 + j7))) xs) fun u8 => (papp rows5 u8)) fun rows9 => ok (rows9))) ([] : List (List Int)) xs) = ok [[4, s1, s2, s3], [s1, s2, s3, s4], [s2, s3, s4, s5], [s3, s4, s5, s6]] by kernel_rfl, bind_ok]
  rw [detD4 (by unfold Sm; decide) k1 k2 k3 k1 k2 k3 k4 k2 k3 k4 k5 k3 k4 k5 k6]
  congr 1
  rw [← id4 e1 e2 e3 e4 e5 e6, Int.mul_ediv_cancel_left _ (by decide)]
  grind
end T

set_option maxRecDepth 100000
namespace T
open PySem PySem.Spec PyProof.Rows L2
/-! ### a mirror that ends, and what it ends with -/
def Tot {α : Type} (m : M α) (P : α → Prop) : Prop := ∃ v, m = ok v ∧ P v
section
variable {α β C ρ θ : Type}
theorem Tot.ok {P : α → Prop} {v : α} (h : P v) : Tot (T.ok v) P := ⟨v, rfl, h⟩
theorem Tot.eq {P : α → Prop} {m : M α} {v : α} (e : m = T.ok v) (h : P v) : Tot m P := ⟨v, e, h⟩
theorem Tot.of {m : M α} {v : α} (e : m = T.ok v) : Tot m (· = v) := ⟨v, e, rfl⟩
theorem Tot.bind {m : M α} {f : α → M β} {P : α → Prop} {Q : β → Prop} (h : Tot m P) (k : ∀ v, P v → Tot (f v) Q) : Tot (m.bind f) Q := by
  obtain ⟨v, e, p⟩ := h
  rw [e, bind_ok]; exact k v p
theorem Tot.mono {m : M α} {P Q : α → Prop} (h : Tot m P) (k : ∀ v, P v → Q v) : Tot m Q := by
  obtain ⟨v, e, p⟩ := h
  exact ⟨v, e, k v p⟩
theorem Tot.ite {c : Prop} [Decidable c] {a b : M α} {P : α → Prop} (h1 : c → Tot a P) (h2 : ¬ c → Tot b P) : Tot (if c then a else b) P := by
  by_cases h : c
  · rw [if_pos h]; exact h1 h
  · rw [if_neg h]; exact h2 h
theorem Tot.loopM {f : C → α → M C} (I : C → Prop) {xs : List α} {c : C} (h0 : I c) (hs : ∀ c x, x ∈ xs → I c → Tot (f c x) I) : Tot (T.loopM f c xs) I := by
  induction xs generalizing c with
  | nil => exact ⟨c, rfl, h0⟩
  | cons x xs ih =>
    obtain ⟨c1, e1, p1⟩ := hs c x List.mem_cons_self h0
    obtain ⟨c2, e2, p2⟩ := ih p1 fun c y hy => hs c y (List.mem_cons_of_mem _ hy)
    exact ⟨c2, by rw [loopM_cons, e1, bind_ok, e2], p2⟩
theorem Tot.loopMi {f : C → α → M C} (I : Nat → C → Prop) {xs : List α} {c : C} (h0 : I 0 c) (hs : ∀ (i : Nat) c x, xs[i]? = some x → I i c → Tot (f c x) (I (i + 1))) : Tot (T.loopM f c xs) (I xs.length) := by
  obtain ⟨c', e, p⟩ := loopM_inv I h0 hs
  exact ⟨c', e, p⟩
def FlP (I : C → Prop) (A : ρ → Prop) : Fl C ρ → Prop
  | .nx c => I c
  | .rt a => A a
theorem Tot.loopF {f : C → α → M (Fl C ρ)} (I : C → Prop) (A : ρ → Prop) {xs : List α} {c : C} (h0 : I c) (hs : ∀ c x, x ∈ xs → I c → Tot (f c x) (FlP I A)) : Tot (T.loopF f c xs) (FlP I A) := by
  induction xs generalizing c with
  | nil => exact ⟨.nx c, rfl, h0⟩
  | cons x xs ih =>
    obtain ⟨y, e1, p1⟩ := hs c x List.mem_cons_self h0
    show Tot ((f c x).bind (flk fun c => T.loopF f c xs)) (FlP I A)
    rw [e1, bind_ok]
    cases y with
    | rt a => exact ⟨_, rfl, p1⟩
    | nx c1 => exact ih p1 fun c y hy => hs c y (List.mem_cons_of_mem _ hy)
theorem Tot.sq {r : M (Fl C ρ)} {k : C → M θ} {ι : ρ → θ} {I : C → Prop} {A : ρ → Prop} {Q : θ → Prop} (h : Tot r (FlP I A)) (hk : ∀ c, I c → Tot (k c) Q) (hA : ∀ a, A a → Q (ι a)) : Tot (T.sq r k ι) Q := by
  obtain ⟨y, e, p⟩ := h
  unfold T.sq
  rw [e, bind_ok]
  cases y with
  | nx c => exact hk c p
  | rt a => exact ⟨_, rfl, hA a p⟩
theorem Tot.whileM {t : C → M Bool} {b : C → M C} (I : C → Prop) (μ : C → Nat) {c : C} (h0 : I c) (hs : ∀ c, I c → Tot (t c) fun z => z = true → Tot (b c) fun c' => I c' ∧ μ c' < μ c) : Tot (T.whileM t b c) fun c => I c ∧ t c = T.ok false := by
  obtain ⟨c', e, p, q⟩ := whileM_inv (t := t) (b := b) I μ (fun c hc => by
    obtain ⟨z, e, h⟩ := hs c hc
    cases z with
    | false => exact .inl e
    | true =>
      obtain ⟨c', e2, p, l⟩ := h rfl
      exact .inr ⟨e, c', e2, p, l⟩) h0
  exact ⟨c', e, p, q⟩
theorem Tot.mapC {f : α → M β} {P : β → Prop} {xs : List α} (h : ∀ x ∈ xs, Tot (f x) P) (hl : xs.length ≤ 16777216) : Tot (T.mapC f xs) fun ys => ys.length = xs.length ∧ ∀ y ∈ ys, P y := by
  obtain ⟨ys, e, l, _, m⟩ := mapC_ex (P := fun _ y => P y) h hl
  exact ⟨ys, e, l, fun y hy => (m y hy).elim fun _ h => h.2⟩
theorem Tot.pget {xs : List α} {x : Int} (h0 : 0 ≤ x) (h : x < xs.length) : Tot (T.pget xs x) (· ∈ xs) := by
  obtain ⟨n, rfl⟩ := Int.eq_ofNat_of_zero_le h0
  exact ⟨_, pget_nat (by omega), List.getElem_mem _⟩
theorem Tot.papp {xs : List α} {x : α} (h : xs.length < 16777216) : Tot (T.papp xs x) (· = xs ++ [x]) := .of (papp_ok h)
theorem Tot.pcat {xs ys : List α} (h : xs.length + ys.length ≤ 16777216) : Tot (T.pcat xs ys) (· = xs ++ ys) := .of (pcat_ok h)
theorem psz_ok {xs : List α} (h : xs.length ≤ 16777216) : psz xs = T.ok xs := grd_pos (by rw [sizeLineE]; exact h) _
end
theorem Tot.pmul_r {x y : Int} (h : y.natAbs < 18446744073709551616) : Tot (pmul x y) (· = x * y) := .of (pmul_right (by rw [pow64]; exact h))
theorem Tot.pmul_l {x y : Int} (h : x.natAbs < 18446744073709551616) : Tot (pmul x y) (· = x * y) := .of (pmul_left (by rw [pow64]; exact h))
theorem Tot.pmod {x y : Int} (h : 0 < y) : Tot (pmod x y) fun v => v = x % y ∧ 0 ≤ v ∧ v < y := ⟨_, pmod_pos h, rfl, Int.emod_nonneg _ (by omega), Int.emod_lt_of_pos _ h⟩
theorem Tot.pmod0 {x y : Int} (h : y ≠ 0) : Tot (T.pmod x y) (· = x.fmod y) := .of (pmod_ok h)
theorem Tot.pdiv0 {x y : Int} (h : y ≠ 0) (h2 : y.natAbs.log2 < 9000) : Tot (T.pdiv x y) (· = x.fdiv y) := .of (pdiv_ok h h2)
theorem mem_rangeL {lo x : Int} {n : Nat} (h : x ∈ rangeL lo n) : lo ≤ x ∧ x < lo + n := by
  obtain ⟨i, hi⟩ := List.getElem?_of_mem h
  rw [rangeL_get] at hi
  by_cases c : i < n
  · rw [if_pos c] at hi
    have := Option.some.inj hi
    omega
  · rw [if_neg c] at hi; cases hi
theorem Tot.prange2 {i j : Int} (h1 : i.natAbs < 1000000000) (h2 : j.natAbs < 1000000000) : Tot (prange2 i j) fun xs => ∀ x ∈ xs, i ≤ x ∧ x < j := by
  have e : (2 : Int) ^ 62 = 4611686018427387904 := by decide
  refine ⟨rangeL i (j - i).toNat, grd_pos (by rw [e]; omega) _, fun x hx => ?_⟩
  have := mem_rangeL hx
  omega
theorem Tot.prangeI {n : Int} (h0 : 0 ≤ n) (h : n < 1000000000) : Tot (prangeI n) fun xs => xs = rangeL 0 n.toNat := by
  obtain ⟨k, rfl⟩ := Int.eq_ofNat_of_zero_le h0
  exact ⟨_, prangeI_nat (by have e : (2 : Nat) ^ 62 = 4611686018427387904 := by decide
                            rw [e]; omega), by simp⟩
theorem Tot.prangeD {i j : Int} (h1 : i.natAbs < 1000000000) (h2 : j.natAbs < 1000000000) : Tot (prangeD i j) fun xs => ∀ x ∈ xs, j < x ∧ x ≤ i := by
  refine ⟨_, prangeD_ok h1 h2, fun x hx => ?_⟩
  obtain ⟨k, hk⟩ := List.getElem?_of_mem hx
  rw [rangeD_get] at hk
  by_cases c : k < (i - j).toNat
  · rw [if_pos c] at hk
    have := Option.some.inj hk
    omega
  · rw [if_neg c] at hk; cases hk
theorem Tot.pset {α : Type} {xs : List α} {i : Int} {x : α} (h0 : 0 ≤ i) (h : i < xs.length) : Tot (T.pset xs i x) fun ys => ys = xs.set i.toNat x ∧ ys.length = xs.length := by
  obtain ⟨n, rfl⟩ := Int.eq_ofNat_of_zero_le h0
  exact ⟨_, pset_nat (by omega), by simp, by simp⟩
theorem natAbs_fdiv_le (x y : Int) : (x.fdiv y).natAbs ≤ x.natAbs + 1 := by
  rw [Int.fdiv_eq_ediv]
  have := Int.natAbs_ediv_le_natAbs x y
  split <;> omega
theorem log2_small {x : Int} (h : x.natAbs < 18446744073709551616) : x.natAbs.log2 < 9000 := by
  have := log2_le (show x.natAbs ≤ 18446744073709551616 by omega)
  have e : Nat.log2 18446744073709551616 = 64 := by decide +kernel
  omega
theorem pget_end (l : List Int) (a : Int) : pget (l ++ [a]) (-1) = ok a := by
  unfold pget
  rw [atI_last]
end T

set_option maxRecDepth 100000
set_option maxHeartbeats 1000000
namespace T
open PySem PySem.Spec PyProof.Rows L2
/-! ### the ring: that it is made or refused, at every row -/
def c_PRIMES : (List Int) := [2, 3, 5, 7, 11, 13, 17, 19, 23, 29, 31, 37, 41, 43, 47, 53, 59, 61, 67, 71, 73, 79, 83, 89, 97, 101, 103, 107, 109, 113, 127, 131, 137, 139, 149, 151, 157, 163, 167, 173, 179, 181, 191, 193, 197, 199]
def c_GREATEST : Int := 39999
def tbl_RingError : List (Str × Bool) := [("RingError", true), ("NoPolynomial", true), ("TooGreat", true), ("NoPrime", true), ("FallsApart", true), ("NotWhole", true)]
noncomputable def m_poly_at (f1 : (List Int)) (x2 : Int) : M Int :=
  (M.bind (ok 0) fun value3 => (M.bind (M.bind (ok (List.reverse f1)) fun xs => loopM (fun (value4 : Int) place5 => (M.bind (M.bind (pmul value4 x2) fun u7 => ok (u7 + place5)) fun value6 => ok (value6))) (value3) xs) fun value8 => (ok value8)))
noncomputable def m_root (m1 : Int) : M Int :=
  (M.bind (ok 1) fun high2 => (M.bind (whileM (fun (high3 : Int) => (M.bind (pmul high3 high3) fun u4 => ok (decide (u4 ≤ m1)))) (fun (high3 : Int) => (M.bind (ok (2 * high3)) fun high5 => ok (high5))) (high2)) fun high6 => (M.bind (ok 0) fun low7 => (M.bind (whileM (fun (s8 : Int × Int) => (ok (decide (1 < (s8.1 - s8.2))))) (fun (s8 : Int × Int) => (M.bind (ok ((s8.2 + s8.1) / 2)) fun middle9 => (M.bind (M.bind (pmul middle9 middle9) fun u10 => ok (decide (u10 ≤ m1))) fun z11 => if z11 = true then (M.bind (ok middle9) fun low12 => ok (s8.1, low12)) else (M.bind (ok middle9) fun high13 => ok (high13, s8.2))))) (high6, low7)) fun s14 => (ok s14.2)))))
noncomputable def m_small_primes  : M (List Int) :=
  (ok c_PRIMES)
noncomputable def m_whole_root (poly1 : (List Int)) : M (Option Int) :=
  (M.bind (M.bind (pget poly1 0) fun u3 => ok (Int.natAbs u3 : Int)) fun last2 => (M.bind (ok (decide (last2 = 0))) fun z4 => if z4 = true then (ok (some 0)) else (sq (ρ := (Option Int)) (M.bind (prange2 1 (last2 + 1)) fun xs => loopF (fun (s5 : Unit) size6 => (M.bind (M.bind (pmod last2 size6) fun u7 => ok (decide (u7 = 0))) fun z8 => if z8 = true then (M.bind (M.bind (m_poly_at poly1 size6) fun u9 => ok (decide (u9 = 0))) fun z10 => if z10 = true then M.bind (ok (some size6)) fun a14 => ok (Fl.rt a14) else (M.bind (M.bind (m_poly_at poly1 (-size6)) fun u11 => ok (decide (u11 = 0))) fun z12 => if z12 = true then (M.bind (ok (some (-size6))) fun a13 => ok (Fl.rt a13)) else ok (Fl.nx ()))) else ok (Fl.nx ()))) () xs) (fun s15 => (ok none)) (fun a => a))))
noncomputable def m_pair_by (poly1 : (List Int)) (b2 : Int) : M (Option ((List Int) × (List Int))) :=
  (M.bind (M.bind (pget poly1 0) fun u4 => (pdiv u4 b2)) fun d3 => (M.bind (M.bind (M.bind (pget poly1 2) fun u6 => ok (u6 - b2)) fun u7 => ok (u7 - d3)) fun amid5 => (M.bind (ok ((!decide (b2 = d3)))) fun z8 => if z8 = true then (M.bind (M.bind (pget poly1 1) fun u11 => M.bind (M.bind (pget poly1 3) fun u10 => (pmul b2 u10)) fun u12 => ok (u11 - u12)) fun top9 => (M.bind (M.bind (pmod top9 (d3 - b2)) fun u13 => ok ((!decide (u13 = 0)))) fun z14 => if z14 = true then (ok none) else (M.bind (pdiv top9 (d3 - b2)) fun a15 => (M.bind (M.bind (M.bind (M.bind (pget poly1 3) fun u16 => ok (u16 - a15)) fun u17 => (pmul a15 u17)) fun u18 => ok ((!decide (u18 = amid5)))) fun z19 => if z19 = true then (ok none) else (M.bind (M.bind (M.bind (M.bind (pget poly1 3) fun u20 => ok (u20 - a15)) fun u21 => psz [d3, u21, 1]) fun u22 => ok ([b2, a15, 1], u22)) fun u23 => ok (some u23)))))) else (M.bind (M.bind (pget poly1 1) fun u25 => M.bind (M.bind (pget poly1 3) fun u24 => (pmul b2 u24)) fun u26 => ok ((!decide (u25 = u26)))) fun z27 => if z27 = true then (ok none) else (M.bind (M.bind (M.bind (pget poly1 3) fun u29 => M.bind (pget poly1 3) fun u30 => (pmul u29 u30)) fun u31 => ok (u31 - (4 * amid5))) fun square28 => (M.bind (M.bind (ok (decide (square28 < 0))) fun z35 => if z35 = true then ok true else (M.bind (M.bind (m_root square28) fun u32 => M.bind (m_root square28) fun u33 => (pmul u32 u33)) fun u34 => ok ((!decide (u34 = square28))))) fun z36 => if z36 = true then (ok none) else (M.bind (M.bind (M.bind (pget poly1 3) fun u38 => M.bind (m_root square28) fun u39 => ok (u38 + u39)) fun u40 => ok (u40 / 2)) fun a37 => (M.bind (M.bind (M.bind (M.bind (pget poly1 3) fun u41 => ok (u41 - a37)) fun u42 => psz [d3, u42, 1]) fun u43 => ok ([b2, a37, 1], u43)) fun u44 => ok (some u44)))))))))
noncomputable def m_apart (poly1 : (List Int)) : M (Option ((List Int) × (List Int))) :=
  (M.bind (M.bind (m_check_poly poly1) fun _ => ok ()) fun _ => (M.bind (m_whole_root poly1) fun at_2 => (M.bind (ok (Option.isSome at_2)) fun z3 => if z3 = true then (M.bind (M.bind (M.bind (M.bind (unO at_2) fun u4 => ok (-u4)) fun u5 => psz [u5, 1]) fun u10 => M.bind (M.bind (M.bind (M.bind (M.bind (unO at_2) fun u6 => ok (-u6)) fun u7 => psz [u7, 1]) fun u8 => (m_poly_parted poly1 u8)) fun u9 => ok u9.1) fun u11 => ok (u10, u11)) fun u12 => ok (some u12)) else (sq (ρ := (Option ((List Int) × (List Int)))) (M.bind (ok (decide ((List.length poly1 : Int) = 5))) fun z13 => if z13 = true then (M.bind (M.bind (pget poly1 0) fun u15 => ok (Int.natAbs u15 : Int)) fun last14 => (sq (ρ := (Option ((List Int) × (List Int)))) (M.bind (prange2 1 (last14 + 1)) fun xs => loopF (fun (s16 : Unit) size17 => (M.bind (M.bind (pmod last14 size17) fun u18 => ok (decide (u18 = 0))) fun z19 => if z19 = true then (sq (ρ := (Option ((List Int) × (List Int)))) (M.bind (ok [size17, (-size17)]) fun xs => loopF (fun (s20 : Unit) b21 => (M.bind (m_pair_by poly1 b21) fun found22 => (M.bind (ok (Option.isSome found22)) fun z23 => if z23 = true then (M.bind (ok found22) fun a24 => ok (Fl.rt a24)) else ok (Fl.nx ())))) () xs) (fun s25 => ok (Fl.nx ())) (fun a => Fl.rt a)) else ok (Fl.nx ()))) () xs) (fun s26 => ok (Fl.nx ())) (fun a => Fl.rt a))) else ok (Fl.nx ())) (fun s27 => (ok none)) (fun a => a)))))
noncomputable def m_mod_at (f1 : (List Int)) (x2 : Int) (p3 : Int) : M Int :=
  (M.bind (ok 0) fun value4 => (M.bind (M.bind (ok (List.reverse f1)) fun xs => loopM (fun (value5 : Int) place6 => (M.bind (M.bind (M.bind (pmul value5 x2) fun u8 => ok (u8 + place6)) fun u9 => (pmod u9 p3)) fun value7 => ok (value7))) (value4) xs) fun value10 => (ok value10)))
noncomputable def m_pair_of (left1 : (List Int)) (p2 : Int) : M (Option (List (List Int))) :=
  (M.bind (asRec4 (cutL left1 none (some 4))) fun p3 => (sq (ρ := (Option (List (List Int)))) (M.bind (prange2 1 p2) fun xs => loopF (fun (s4 : Unit) b5 => (M.bind (M.bind (M.bind (m_turned b5 p2) fun u7 => (pmul p3.1 u7)) fun u8 => (pmod u8 p2)) fun d6 => (M.bind (ok ((!decide (b5 = d6)))) fun z9 => if z9 = true then (M.bind (M.bind (M.bind (M.bind (pmul b5 p3.2.2.2) fun u11 => ok (p3.2.1 - u11)) fun u12 => M.bind (m_turned (d6 - b5) p2) fun u13 => (pmul u12 u13)) fun u14 => (pmod u14 p2)) fun a10 => (M.bind (M.bind (M.bind (M.bind (M.bind (M.bind (pmul a10 (p3.2.2.2 - a10)) fun u15 => ok (u15 + b5)) fun u16 => ok (u16 + d6)) fun u17 => ok (u17 - p3.2.2.1)) fun u18 => (pmod u18 p2)) fun u19 => ok (decide (u19 = 0))) fun z20 => if z20 = true then (M.bind (M.bind (M.bind (M.bind (pmod (p3.2.2.2 - a10) p2) fun u21 => psz [d6, u21, 1]) fun u22 => psz [[b5, a10, 1], u22]) fun u23 => ok (some u23)) fun a24 => ok (Fl.rt a24)) else ok (Fl.nx ()))) else (M.bind (M.bind (M.bind (M.bind (pmul b5 p3.2.2.2) fun u25 => ok (p3.2.1 - u25)) fun u26 => (pmod u26 p2)) fun u27 => ok (decide (u27 = 0))) fun z28 => if z28 = true then (sq (ρ := (Option (List (List Int)))) (M.bind (prangeI p2) fun xs => loopF (fun (s29 : Unit) a30 => (M.bind (M.bind (M.bind (M.bind (M.bind (M.bind (pmul a30 (p3.2.2.2 - a30)) fun u31 => ok (u31 + b5)) fun u32 => ok (u32 + d6)) fun u33 => ok (u33 - p3.2.2.1)) fun u34 => (pmod u34 p2)) fun u35 => ok (decide (u35 = 0))) fun z36 => if z36 = true then (M.bind (M.bind (M.bind (M.bind (pmod (p3.2.2.2 - a30) p2) fun u37 => psz [d6, u37, 1]) fun u38 => psz [[b5, a30, 1], u38]) fun u39 => ok (some u39)) fun a40 => ok (Fl.rt a40)) else ok (Fl.nx ()))) () xs) (fun s41 => ok (Fl.nx ())) (fun a => Fl.rt a)) else ok (Fl.nx ()))))) () xs) (fun s42 => (ok none)) (fun a => a)))
noncomputable def m_rootless (left1 : (List Int)) (p2 : Int) : M (List ((List Int) × Int)) :=
  (M.bind (ok none) fun pair3 => (M.bind (M.bind (ok (decide ((List.length left1 : Int) = 5))) fun z4 => if z4 = true then (M.bind (m_pair_of left1 p2) fun pair5 => ok (pair5)) else ok (pair3)) fun pair6 => (M.bind (ok (Option.isNone pair6)) fun z7 => if z7 = true then (ok [(left1, 1)]) else (M.bind (M.bind (M.bind (unO pair6) fun u8 => (pget u8 0)) fun u10 => M.bind (M.bind (unO pair6) fun u9 => (pget u9 1)) fun u11 => ok (decide (u10 = u11))) fun z12 => if z12 = true then (M.bind (M.bind (M.bind (unO pair6) fun u13 => (pget u13 0)) fun u14 => ok (u14, 2)) fun u15 => psz [u15]) else (M.bind (M.bind (unO pair6) fun u16 => (psortT u16)) fun xs => mapC (fun g17 => (ok (g17, 1))) xs)))))
noncomputable def m_split_by (poly1 : (List Int)) (p2 : Int) : M (List ((List Int) × Int)) :=
  (M.bind (ok (!decide (p2 ∈ c_PRIMES))) fun z3 => if z3 = true then (exc ⟨"NoPrime", []⟩) else (M.bind (m_mod_poly poly1 p2) fun left4 => (M.bind (ok ([] : List ((List Int) × Int))) fun parts5 => (M.bind (M.bind (prangeI p2) fun xs => loopM (fun (s6 : (List Int) × (List ((List Int) × Int))) low7 => (M.bind (ok 0) fun often8 => (M.bind (whileM (fun (s9 : (List Int) × Int) => (M.bind (ok (decide (1 < (List.length s9.1 : Int)))) fun z11 => if z11 = true then (M.bind (m_mod_at s9.1 (-low7) p2) fun u10 => ok (decide (u10 = 0))) else ok false)) (fun (s9 : (List Int) × Int) => (M.bind (M.bind (m_mod_parted s9.1 [low7, 1] p2) fun u13 => ok u13.1) fun left12 => (M.bind (ok (s9.2 + 1)) fun often14 => ok (left12, often14)))) (s6.1, often8)) fun s15 => (M.bind (ok (decide (0 < s15.2))) fun z16 => if z16 = true then (M.bind (papp s6.2 ([low7, 1], s15.2)) fun parts17 => ok (s15.1, parts17)) else ok (s15.1, s6.2))))) (left4, parts5) xs) fun s18 => (M.bind (M.bind (ok (decide (1 < (List.length s18.1 : Int)))) fun z19 => if z19 = true then (M.bind (M.bind (m_rootless s18.1 p2) fun u21 => (pcat s18.2 u21)) fun parts20 => ok (parts20)) else ok (s18.2)) fun parts22 => ok parts22)))))
noncomputable def m_square_primes (size1 : Int) : M (List Int) :=
  (M.bind m_small_primes fun xs => compL (fun p2 => (M.bind (M.bind (pmul p2 p2) fun u3 => (pmod size1 u3)) fun u4 => ok (decide (u4 = 0)))) (fun p2 => (ok p2)) xs)
noncomputable def m_parts_of (poly1 : (List Int)) (p2 : Int) : M (List ((List Int) × Int × (List Int))) :=
  (M.bind (ok ([] : List ((List Int) × Int × (List Int)))) fun parts3 => (M.bind (M.bind (m_split_by poly1 p2) fun xs => loopM (fun (parts4 : (List ((List Int) × Int × (List Int)))) x5 => (M.bind (M.bind (M.bind (M.bind (m_poly_parted poly1 x5.1) fun u6 => ok u6.2) fun u7 => ok (x5.1, x5.2, u7)) fun u8 => (papp parts4 u8)) fun parts9 => ok (parts9))) (parts3) xs) fun parts10 => ok parts10))
noncomputable def m_divides_all (m1 : Int) (row2 : (List Int)) : M Bool :=
  (M.bind (mapC (fun place3 => (M.bind (pmod place3 m1) fun u4 => ok (decide (u4 = 0)))) row2) fun u5 => ok (List.all u5 id))
noncomputable def m_outside (poly1 : (List Int)) (size2 : Int) : M (Option (Int × (List Int))) :=
  (sq (ρ := (Option (Int × (List Int)))) (M.bind (m_square_primes size2) fun xs => loopF (fun (s3 : Unit) p4 => (sq (ρ := (Option (Int × (List Int)))) (M.bind (m_parts_of poly1 p4) fun xs => loopF (fun (s5 : Unit) x6 => (M.bind (M.bind (ok (decide (2 ≤ x6.2.1))) fun z8 => if z8 = true then (M.bind (pmul p4 p4) fun u7 => (m_divides_all u7 x6.2.2)) else ok false) fun z9 => if z9 = true then (M.bind (M.bind (M.bind (m_poly_parted poly1 x6.1) fun u11 => ok u11.1) fun xs => mapC (fun place12 => (pmod place12 p4)) xs) fun row10 => (M.bind (whileM (fun (row13 : (List Int)) => (ok (decide ((List.length row13 : Int) < ((List.length poly1 : Int) - 1))))) (fun (row13 : (List Int)) => (M.bind (papp row13 0) fun row14 => ok (row14))) (row10)) fun row15 => (M.bind (ok (some (p4, row15))) fun a16 => ok (Fl.rt a16)))) else ok (Fl.nx ()))) () xs) (fun s17 => ok (Fl.nx ())) (fun a => Fl.rt a))) () xs) (fun s18 => (ok none)) (fun a => a))
noncomputable def m_Ring (poly2 : (List Int)) : M Rg :=
  (M.bind (m_apart poly2) fun found3 => (M.bind (M.bind (ok (Option.isSome found3)) fun z4 => if z4 = true then (M.bind (M.bind (unO found3) fun u5 => ok u5.1) fun u7 => M.bind (M.bind (unO found3) fun u6 => ok u6.2) fun u8 => (exc ⟨"FallsApart", [("right", XF.row u8), ("left", XF.row u7)]⟩)) else ok ()) fun s9 => (M.bind (m_measure poly2) fun size10 => (M.bind (M.bind (ok (decide (c_GREATEST < (Int.natAbs size10 : Int)))) fun z11 => if z11 = true then (exc ⟨"TooGreat", []⟩) else ok ()) fun s12 => (M.bind (m_outside poly2 size10) fun lack13 => (M.bind (M.bind (ok (Option.isSome lack13)) fun z14 => if z14 = true then (M.bind (M.bind (unO lack13) fun u15 => ok u15.1) fun u17 => M.bind (M.bind (unO lack13) fun u16 => ok u16.2) fun u18 => (exc ⟨"NotWhole", [("number", XF.row u18), ("prime", XF.int u17)]⟩)) else ok ()) fun s19 => (M.bind (ok poly2) fun poly20 => (M.bind (ok ((List.length poly2 : Int) - 1)) fun degree21 => (M.bind (ok size10) fun measure22 => ok (poly20, degree21, measure22))))))))))
noncomputable def m_l_shifted (poly_here1 : (List Int)) (s2 : Int) : M (List Int) :=
  (M.bind (ok poly_here1) fun row_here3 => (M.bind (M.bind (prangeI ((List.length row_here3 : Int) - 1)) fun xs => loopM (fun (row_here4 : (List Int)) low5 => (M.bind (M.bind (prangeD ((List.length row_here4 : Int) - 2) (low5 - 1)) fun xs => loopM (fun (row_here6 : (List Int)) at_7 => (M.bind (M.bind (M.bind (pget row_here6 at_7) fun u9 => M.bind (M.bind (pget row_here6 (at_7 + 1)) fun u8 => (pmul s2 u8)) fun u10 => ok (u9 + u10)) fun u12 => (pset row_here6 at_7 u12)) fun row_here11 => ok (row_here11))) (row_here4) xs) fun row_here13 => ok (row_here13))) (row_here3) xs) fun row_here14 => (ok row_here14)))
noncomputable def m_l_poly (cell_here1 : Int) (prime2 : Int) : M (List Int) :=
  (M.bind (m_draws cell_here1 [3, 8] prime2) fun deep3 => (M.bind (M.bind (m_draws cell_here1 [3, 8, 999, 999, 999, 999] prime2) fun u6 => M.bind (M.bind (pget deep3 0) fun u5 => ok (u5 + 4)) fun u7 => ok (cutL u6 (some 2) (some u7))) fun wide4 => (M.bind (M.bind (pget deep3 1) fun u8 => ok (decide (u8 = 7))) fun z9 => if z9 = true then (M.bind (mapC (fun place10 => (ok (place10 - 499))) wide4) fun u11 => (pcat u11 [1])) else (M.bind (m_draws cell_here1 [3, 8, 9, 9, 9, 5, 7] prime2) fun found12 => (M.bind (M.bind (pget deep3 0) fun u13 => ok (decide (u13 = 0))) fun z14 => if z14 = true then (M.bind (m_draws cell_here1 [3, 8, 161, 41] prime2) fun found15 => (M.bind (M.bind (pget found15 2) fun u16 => ok (u16 - 80)) fun u18 => M.bind (M.bind (pget found15 3) fun u17 => ok (u17 - 20)) fun u19 => psz [u18, u19, 1])) else (M.bind (M.bind (pget deep3 0) fun u20 => ok (decide (u20 = 1))) fun z21 => if z21 = true then (M.bind (M.bind (M.bind (pget found12 2) fun u22 => ok (u22 - 4)) fun u25 => M.bind (M.bind (pget found12 3) fun u23 => ok (u23 - 4)) fun u26 => M.bind (M.bind (pget found12 4) fun u24 => ok (u24 - 4)) fun u27 => psz [u25, u26, u27, 1]) fun u29 => M.bind (M.bind (pget found12 5) fun u28 => ok (u28 - 2)) fun u30 => (m_l_shifted u29 u30)) else (M.bind (m_draws cell_here1 [3, 8, 7, 7, 7, 5, 7] prime2) fun found31 => (M.bind (M.bind (M.bind (pget found31 2) fun u32 => ok (u32 - 3)) fun u36 => M.bind (M.bind (pget found31 3) fun u33 => ok (u33 - 3)) fun u37 => M.bind (M.bind (pget found31 4) fun u34 => ok (u34 - 3)) fun u38 => M.bind (M.bind (pget found31 6) fun u35 => ok (u35 - 3)) fun u39 => psz [u36, u37, u38, u39, 1]) fun u41 => M.bind (M.bind (pget found31 5) fun u40 => ok (u40 - 2)) fun u42 => (m_l_shifted u41 u42)))))))))
noncomputable def m_l_known_ring (cell_here1 : Int) : M (List Int) :=
  (M.bind (ok [[5, 0, 1], [(-10), 0, 1], [6, 1, 1], [(-3), 0, 1], [(-1), (-1), 0, 1], [(-2), 0, 0, 1], [(-1), 4, 0, 1]]) fun known2 => (M.bind (pcat known2 [[1, 0, 0, 0, 1], [(-1), (-1), 0, 0, 1], [1, 1, 1, 1, 1], [(-2), 0, 0, 0, 1], [1, 0, (-1), 0, 1]]) fun known3 => (M.bind (M.bind (m_mixed cell_here1 3 998244353) fun u4 => ok (u4 % 12)) fun u5 => (pget known3 u5))))
noncomputable def m_l_ring (script1 : (List Int)) (k2 : Int) (prime3 : Int) : M (Option Rg) :=
  (M.bind (ok none) fun found4 => (M.bind (M.bind (ok (rangeL 0 3)) fun xs => loopM (fun (found5 : (Option Rg)) j6 => (M.bind (ok (Option.isNone found5)) fun z7 => if z7 = true then (M.bind (tryM tbl_RingError (M.bind (M.bind (M.bind (M.bind (m_cell script1 (k2 + j6)) fun u9 => (m_l_poly u9 prime3)) fun u10 => (m_Ring u10)) fun u11 => ok (some u11)) fun found8 => ok (found8)) (M.bind (ok none) fun found12 => ok (found12))) fun found13 => ok (found13)) else ok (found5))) (found4) xs) fun found14 => (M.bind (M.bind (ok (Option.isNone found14)) fun z15 => if z15 = true then (M.bind (M.bind (M.bind (M.bind (m_cell script1 k2) fun u17 => (m_l_known_ring u17)) fun u18 => (m_Ring u18)) fun u19 => ok (some u19)) fun found16 => ok (found16)) else ok (found14)) fun found20 => (ok found20))))
noncomputable def m_l_row (found1 : (List Int)) (many2 : Int) : M Bool :=
  (M.bind (M.bind (ok (!true)) fun z3 => if z3 = true then ok true else (ok ((!decide ((List.length found1 : Int) = many2))))) fun z4 => if z4 = true then (ok false) else (M.bind (mapC (fun place5 => (m_whole place5)) found1) fun u6 => ok (List.all u6 id)))
theorem e_poly_at : m_poly_at = m_horner := rfl
/-- a ring's polynomial -/
def Gd (f : List Int) : Prop := ∃ g : List Int, f = g ++ [1] ∧ 2 ≤ g.length ∧ g.length ≤ 4 ∧ ∀ x ∈ g, x.natAbs ≤ 499
theorem Gd.len {f : List Int} (h : Gd f) : 3 ≤ f.length ∧ f.length ≤ 5 := by
  obtain ⟨g, rfl, h2, h4, _⟩ := h
  rw [List.length_append]
  exact ⟨by simp; omega, by simp; omega⟩
theorem Gd.mem {f : List Int} (h : Gd f) : ∀ x ∈ f, x.natAbs ≤ 499 := fun x hx => by
  obtain ⟨g, rfl, _, _, hb⟩ := h
  rcases List.mem_append.mp hx with z | z
  · exact hb x z
  · have : x = 1 := by simpa using z
    subst this; decide
theorem Gd.sm {f : List Int} (h : Gd f) : ∀ x ∈ f, Sm 9 x := fun x hx => sm10 (h.mem x hx)
theorem check_step (good : Bool) (x : Int) : (M.bind (M.bind (ok (decide (x < (-c_LARGEST)))) fun z11 => if z11 = true then ok true else (ok (decide (c_LARGEST < x)))) fun z12 => if z12 = true then (M.bind (ok false) fun good13 => ok (good13)) else ok (good)) = ok (good && decide (x.natAbs ≤ 499)) := by
  have hC : c_LARGEST = 499 := rfl
  rw [hC]
  by_cases h1 : x < -499
  · rw [decide_eq_true h1, decide_eq_false (show ¬ x.natAbs ≤ 499 by omega), Bool.and_false]; rfl
  · rw [decide_eq_false h1, bind_ok, if_neg (by decide)]
    by_cases h2 : 499 < x
    · rw [decide_eq_true h2, decide_eq_false (show ¬ x.natAbs ≤ 499 by omega), Bool.and_false]; rfl
    · rw [decide_eq_false h2, decide_eq_true (show x.natAbs ≤ 499 by omega), Bool.and_true]; rfl
theorem foldl_and {α : Type} (p : α → Bool) : ∀ (l : List α) (b : Bool), l.foldl (fun a x => a && p x) b = (b && l.all p)
  | [], b => by rw [List.foldl_nil, List.all_nil, Bool.and_true]
  | x :: l, b => by rw [List.foldl_cons, foldl_and p l, List.all_cons, Bool.and_assoc]
theorem check_loop (f : List Int) (good : Bool) : loopM (fun (good9 : Bool) place10 => (M.bind (M.bind (ok (decide (place10 < (-c_LARGEST)))) fun z11 => if z11 = true then ok true else (ok (decide (c_LARGEST < place10)))) fun z12 => if z12 = true then (M.bind (ok false) fun good13 => ok (good13)) else ok (good9))) good f = ok (good && f.all fun x => decide (x.natAbs ≤ 499)) :=
  (loopM_fold (g := fun a x => a && decide (x.natAbs ≤ 499)) (fun _ => True) trivial fun c x _ _ => ⟨check_step c x, trivial⟩).1.trans (by rw [foldl_and])
theorem check_cases (f : List Int) : (m_check_poly f = ok () ∧ Gd f) ∨ m_check_poly f = exc ⟨"NoPolynomial", []⟩ := by
  unfold m_check_poly
  have no : ∀ k : Bool → M Unit, k false = exc ⟨"NoPolynomial", []⟩ → (M.bind (ok false) fun good2 => k good2) = exc ⟨"NoPolynomial", []⟩ := fun k h => h
  by_cases h3 : 3 ≤ f.length
  · by_cases h5 : f.length ≤ 5
    · rw [decide_eq_true (show (3 : Int) ≤ (f.length : Int) by omega), if_pos rfl, bind_ok, decide_eq_true (show (f.length : Int) ≤ 5 by omega), if_pos rfl]
      obtain ⟨g, a, rfl⟩ : ∃ g a, f = g ++ [a] := ⟨f.dropLast, f.getLast (by intro z; subst z; simp at h3), (List.dropLast_concat_getLast _).symm⟩
      rw [pget_end, bind_ok]
      by_cases ha : a = 1
      · subst ha
        rw [decide_eq_true rfl, bind_ok, bind_ok, if_pos rfl, bind_ok, check_loop, Bool.true_and, bind_ok]
        by_cases hb : ((g ++ [1]).all fun x => decide (x.natAbs ≤ 499)) = true
        · rw [hb]
          refine .inl ⟨rfl, g, rfl, by simp at h3; omega, by simp at h5; omega, fun x hx => ?_⟩
          have := List.all_eq_true.mp hb x (List.mem_append_left _ hx)
          simpa using this
        · rw [Bool.not_eq_true] at hb
          rw [hb]
          exact .inr rfl
      · rw [decide_eq_false ha]
        exact .inr rfl
    · rw [decide_eq_true (show (3 : Int) ≤ (f.length : Int) by omega), if_pos rfl, bind_ok, decide_eq_false (show ¬ (f.length : Int) ≤ 5 by omega)]
      exact .inr rfl
  · rw [decide_eq_false (show ¬ (3 : Int) ≤ (f.length : Int) by omega)]
    exact .inr rfl
theorem whole_root_tot {f : List Int} (h : Gd f) : Tot (m_whole_root f) fun _ => True := by
  have hm := h.mem
  unfold m_whole_root
  have hl := h.len
  obtain ⟨x, e, hx⟩ := Tot.pget (xs := f) (x := 0) (by omega) (by omega)
  have hx' := hm x hx
  simp only [bind_bind, bind_okS, e]
  refine .ite (fun _ => .ok trivial) fun hne => ?_
  refine .sq (I := fun _ => True) (A := fun _ => True) (.bind (.prange2 (by omega) (by omega)) fun xs hxs => .loopF _ _ trivial fun c s hs _ => ?_) (fun _ _ => .ok trivial) fun _ _ => trivial
  have hs' := hxs s hs
  have at_ok : ∀ z : Int, z.natAbs ≤ 500 → m_poly_at f z = ok (ev f z) := fun z hz => by
    rw [e_poly_at]
    exact horner_val (a := 9) (m := 9) h.sm (Sm.of hz) (by omega)
  refine .bind (.pmod (by omega)) fun u _ => .ite (fun _ => ?_) fun _ => .ok trivial
  rw [at_ok s (by omega), bind_ok]
  refine .ite (fun _ => .ok trivial) fun _ => ?_
  rw [at_ok (-s) (by omega), bind_ok]
  exact .ite (fun _ => .ok trivial) fun _ => .ok trivial
theorem sq_mono {a b : Int} (h0 : 0 ≤ a) (h : a ≤ b) : a * a ≤ b * b := Int.mul_le_mul h h h0 (by omega)
theorem sq_lt {a b : Int} (h0 : 0 ≤ b) (h : a * a < b * b) : a < b := by
  by_cases c : a < b
  · exact c
  · exact absurd (sq_mono h0 (show b ≤ a by omega)) (by omega)
theorem root_ok {m B : Int} (h0 : 0 ≤ m) (hB : m < B * B) (hB0 : 0 < B) (hB2 : (2 * B).natAbs.log2 < 400000) : ∃ r, m_root m = ok r ∧ 0 ≤ r ∧ r < B ∧ r * r ≤ m ∧ m < (r + 1) * (r + 1) := by
  have small : ∀ x : Int, 0 ≤ x → x ≤ 2 * B → pmul x x = ok (x * x) := fun x h1 h2 => by
    refine grd_pos (.inr ?_) _
    have := log2_le (show x.natAbs ≤ (2 * B).natAbs by omega)
    omega
  unfold m_root
  obtain ⟨high, e1, ⟨p1, p2⟩, q1⟩ := whileM_inv (t := fun (high3 : Int) => (M.bind (pmul high3 high3) fun u4 => ok (decide (u4 ≤ m)))) (b := fun (high3 : Int) => (M.bind (ok (2 * high3)) fun high5 => ok (high5)))
    (fun h => 0 < h ∧ h ≤ 2 * B) (fun h => (2 * B - h).toNat) (fun h ⟨h1, h2⟩ => by
      rw [small h (by omega) h2, bind_ok]
      by_cases c : h * h ≤ m
      · have hb : h < B := sq_lt (by omega) (by omega)
        exact .inr ⟨by rw [decide_eq_true c], 2 * h, rfl, ⟨by omega, by omega⟩, by omega⟩
      · exact .inl (by rw [decide_eq_false c])) (c := 1) ⟨by omega, by omega⟩
  rw [small high (by omega) p2, bind_ok] at q1
  have q1 : m < high * high := by
    by_cases c : high * high ≤ m
    · rw [decide_eq_true c] at q1; cases q1
    · omega
  obtain ⟨s, e2, ⟨r1, r2, r3, r4, r5⟩, q2⟩ := whileM_inv (t := fun (s8 : Int × Int) => (ok (decide (1 < (s8.1 - s8.2))))) (b := fun (s8 : Int × Int) => (M.bind (ok ((s8.2 + s8.1) / 2)) fun middle9 => (M.bind (M.bind (pmul middle9 middle9) fun u10 => ok (decide (u10 ≤ m))) fun z11 => if z11 = true then (M.bind (ok middle9) fun low12 => ok (s8.1, low12)) else (M.bind (ok middle9) fun high13 => ok (high13, s8.2)))))
    (fun s => 0 ≤ s.2 ∧ s.2 < s.1 ∧ s.1 ≤ 2 * B ∧ s.2 * s.2 ≤ m ∧ m < s.1 * s.1) (fun s => (s.1 - s.2).toNat) (fun ⟨hi, lo⟩ ⟨h1, h2, h3, h4, h5⟩ => by
      dsimp only at h1 h2 h3 h4 h5 ⊢
      by_cases c : 1 < hi - lo
      · right
        refine ⟨by rw [decide_eq_true c], ?_⟩
        have m1 : lo < (lo + hi) / 2 := by omega
        have m2 : (lo + hi) / 2 < hi := by omega
        rw [bind_ok, small _ (by omega) (by omega), bind_ok, bind_ok]
        by_cases d : (lo + hi) / 2 * ((lo + hi) / 2) ≤ m
        · rw [if_pos (decide_eq_true d)]
          exact ⟨_, rfl, ⟨by dsimp only; omega, m2, h3, d, h5⟩, by dsimp only; omega⟩
        · rw [if_neg (by simpa using d)]
          exact ⟨_, rfl, ⟨h1, m1, by dsimp only; omega, h4, by dsimp only; omega⟩, by dsimp only; omega⟩
      · exact .inl (by rw [decide_eq_false c])) (c := (high, 0)) ⟨by omega, p1, p2, by omega, q1⟩
  refine ⟨s.2, ?_, r1, sq_lt (by omega) (by omega), r4, ?_⟩
  · rw [bind_ok, e1, bind_ok, bind_ok, e2, bind_ok]
  · have : ¬ 1 < s.1 - s.2 := fun z => by rw [decide_eq_true z] at q2; cases q2
    have : s.1 = s.2 + 1 := by omega
    rw [← this]; exact r5
theorem natAbs_mul_le {x y : Int} {A B : Nat} (hx : x.natAbs ≤ A) (hy : y.natAbs ≤ B) : (x * y).natAbs ≤ A * B := by rw [Int.natAbs_mul]; exact Nat.mul_le_mul hx hy
theorem pair_by_tot {a b c d z : Int} (ha : a.natAbs ≤ 499) (hb : b.natAbs ≤ 499) (hc : c.natAbs ≤ 499) (hd : d.natAbs ≤ 499) (hz : z ≠ 0) (hz2 : z.natAbs ≤ 499) : Tot (m_pair_by [a, b, c, d, 1] z) fun _ => True := by
  unfold m_pair_by
  simp only [bind_bind, bind_okS, pg0, pg1, pg2, pg3]
  have hzd := natAbs_mul_le hz2 hd
  have hdd := natAbs_mul_le hd hd
  refine .bind (.pdiv0 hz (log2_small (by omega))) fun w hw => ?_
  have hw2 := natAbs_fdiv_le a z
  rw [← hw] at hw2
  refine .ite (fun h => ?_) (fun h => ?_)
  · have hne : w - z ≠ 0 := by
      intro k
      have : z = w := by omega
      simp [this] at h
    refine .bind (.pmul_l (by omega)) fun u hu => ?_
    rw [← hu] at hzd
    refine .bind (.pmod0 hne) fun _ _ => .ite (fun _ => .ok trivial) fun _ => ?_
    refine .bind (.pdiv0 hne (log2_small (by omega))) fun q hq => ?_
    have hq2 := natAbs_fdiv_le (b - u) (w - z)
    rw [← hq] at hq2
    refine .bind (.pmul_l (by omega)) fun _ _ => .ite (fun _ => .ok trivial) fun _ => ?_
    rw [psz_ok (by simp), bind_ok]
    exact .ok trivial
  · refine .bind (.pmul_l (by omega)) fun u hu => .ite (fun _ => .ok trivial) fun _ => ?_
    refine .bind (.pmul_l (by omega)) fun v hv => ?_
    rw [← hv] at hdd
    have hroot : ∀ s : Int, 0 ≤ s → s.natAbs ≤ 400000 → ∃ r, m_root s = ok r ∧ r.natAbs ≤ 1000 := fun s h0 h1 => by
      obtain ⟨r, e, r0, r1, _⟩ := root_ok (m := s) (B := 1000) h0 (by omega) (by omega) (by decide +kernel)
      exact ⟨r, e, by omega⟩
    by_cases hs : v - 4 * (c - z - w) < 0
    · rw [if_pos (decide_eq_true hs), bind_ok, if_pos rfl]
      exact .ok trivial
    · rw [if_neg (by simpa using hs)]
      obtain ⟨r, er, hr⟩ := hroot (v - 4 * (c - z - w)) (by omega) (by omega)
      simp only [er, bind_okS, bind_bind]
      refine .bind (.pmul_l (by omega)) fun _ _ => .ite (fun _ => .ok trivial) fun _ => ?_
      rw [psz_ok (by simp), bind_ok]
      exact .ok trivial
theorem poly_parted_tot {f g : List Int} {d : Nat} (hg : g.length = d + 1) (hb : ∀ x ∈ g, x.natAbs < 18446744073709551616) (hf : f.length ≤ 100000) (hd : d ≤ 100000) : Tot (m_poly_parted f g) fun r => r.1.length ≤ f.length ∧ r.2.length ≤ d := by
  unfold m_poly_parted
  have hdeg : (g.length : Int) - 1 = (d : Int) := by omega
  simp only [bind_okS, hdeg]
  refine .bind (P := fun s : List Int × List Int => s.1.length = f.length ∧ s.2.length ≤ f.length) ?_ fun s hs => ?_
  · rw [prangeD_ok (by omega) (by omega), bind_ok]
    refine (Tot.loopMi (fun i (s : List Int × List Int) => s.1.length = f.length ∧ s.2.length = i) ⟨rfl, rfl⟩ fun i s x hx hs => ?_).mono fun s hs => ⟨hs.1, by rw [hs.2]; unfold rangeD; rw [List.length_map, List.length_range]; omega⟩
    rw [rangeD_get] at hx
    by_cases c : i < ((f.length : Int) - 1 - (d : Int) - -1).toNat
    · rw [if_pos c] at hx
      have hx := Option.some.inj hx
      refine .bind (.pget (by omega) (by omega)) fun part _ => ?_
      refine .bind (.papp (by omega)) fun q hq => ?_
      refine .bind (P := fun l : List Int => l.length = f.length) ?_ fun l hl => .ok ⟨hl, by rw [hq, List.length_append, hs.2]; rfl⟩
      refine .bind (.prangeI (by omega) (by omega)) fun xs hxs => ?_
      subst hxs
      refine .loopM (fun l : List Int => l.length = f.length) hs.1 fun l j hj hl => ?_
      have hj := mem_rangeL hj
      refine .bind (P := fun l : List Int => l.length = f.length) ?_ fun l hl => .ok hl
      refine .bind (.pget (by omega) (by omega)) fun u _ => ?_
      refine .bind (P := fun _ => True) (.bind (.pget (xs := g) (by omega) (by omega)) fun v hv => (Tot.pmul_r (hb v hv)).mono fun _ _ => trivial) fun v _ => ?_
      exact (Tot.pset (by omega) (by omega)).mono fun l' h => by rw [h.2, hl]
    · rw [if_neg c] at hx; cases hx
  · rw [cut_ok, bind_ok, cut_ok, bind_ok, cutL_take]
    refine .ok ⟨?_, ?_⟩
    · have := cutP_len (List.reverse s.2)
      rw [List.length_reverse] at this
      dsimp only
      omega
    · have := cutP_len (s.1.take d)
      rw [List.length_take] at this
      dsimp only
      omega
theorem Gd.cases {f : List Int} (h : Gd f) : (∃ a b, f = [a, b, 1] ∧ a.natAbs ≤ 499 ∧ b.natAbs ≤ 499) ∨ (∃ a b c, f = [a, b, c, 1] ∧ a.natAbs ≤ 499 ∧ b.natAbs ≤ 499 ∧ c.natAbs ≤ 499) ∨
    ∃ a b c d, f = [a, b, c, d, 1] ∧ a.natAbs ≤ 499 ∧ b.natAbs ≤ 499 ∧ c.natAbs ≤ 499 ∧ d.natAbs ≤ 499 := by
  obtain ⟨g, rfl, h2, h4, hb⟩ := h
  match g, h2, h4, hb with
  | [a, b], _, _, hb => exact .inl ⟨a, b, rfl, hb a (by simp), hb b (by simp)⟩
  | [a, b, c], _, _, hb => exact .inr (.inl ⟨a, b, c, rfl, hb a (by simp), hb b (by simp), hb c (by simp)⟩)
  | [a, b, c, d], _, _, hb => exact .inr (.inr ⟨a, b, c, d, rfl, hb a (by simp), hb b (by simp), hb c (by simp), hb d (by simp)⟩)
theorem unO_some {α : Type} (a : α) : unO (some a) = ok a := rfl
theorem measure_tot {f : List Int} (h : Gd f) : ∃ v, m_measure f = ok v := by
  rcases h.cases with ⟨a, b, rfl, ha, hb⟩ | ⟨a, b, c, rfl, ha, hb, hc⟩ | ⟨a, b, c, d, rfl, ha, hb, hc, hd⟩
  · exact ⟨_, meas2 ha hb⟩
  · exact ⟨_, meas3 ha hb hc⟩
  · exact ⟨_, meas4 ha hb hc hd⟩
theorem whole_root_sm {f : List Int} (h : Gd f) : Tot (m_whole_root f) fun r => ∀ z, r = some z → z.natAbs ≤ 499 := by
  have hm := h.mem
  unfold m_whole_root
  have hl := h.len
  obtain ⟨x, e, hx⟩ := Tot.pget (xs := f) (x := 0) (by omega) (by omega)
  have hx' := hm x hx
  simp only [bind_bind, bind_okS, e]
  refine .ite (fun _ => .ok fun z hz => by cases hz; decide) fun hne => ?_
  refine .sq (I := fun _ => True) (A := fun r => ∀ z, r = some z → z.natAbs ≤ 499) (.bind (.prange2 (by omega) (by omega)) fun xs hxs => .loopF _ _ trivial fun c s hs _ => ?_) (fun _ _ => .ok fun z hz => nomatch hz) fun _ h => h
  have hs' := hxs s hs
  have at_ok : ∀ z : Int, z.natAbs ≤ 500 → m_poly_at f z = ok (ev f z) := fun z hz => by
    rw [e_poly_at]
    exact horner_val (a := 9) (m := 9) h.sm (Sm.of hz) (by omega)
  refine .bind (.pmod (by omega)) fun u _ => .ite (fun _ => ?_) fun _ => .ok trivial
  rw [at_ok s (by omega), bind_ok]
  refine .ite (fun _ => .ok fun z hz => by cases hz; omega) fun _ => ?_
  rw [at_ok (-s) (by omega), bind_ok]
  exact .ite (fun _ => .ok fun z hz => by cases hz; omega) fun _ => .ok trivial
theorem apart_tot {f : List Int} (h : Gd f) (hc : m_check_poly f = ok ()) : Tot (m_apart f) fun _ => True := by
  unfold m_apart
  have hl := h.len
  rw [hc, bind_ok, bind_ok]
  refine .bind (whole_root_sm h) fun at2 hat => ?_
  rw [bind_ok]
  cases at2 with
  | some z =>
    have hz := hat z rfl
    rw [if_pos (show (some z).isSome = true from rfl)]
    simp only [unO_some, bind_okS, bind_bind, psz_ok (show [-z, 1].length ≤ 16777216 by simp)]
    refine .bind (poly_parted_tot (d := 1) rfl (fun x hx => ?_) (by omega) (by omega)) fun r _ => .ok trivial
    simp only [List.mem_cons, List.not_mem_nil, or_false] at hx
    rcases hx with rfl | rfl
    · omega
    · decide
  | none =>
    rw [if_neg (by decide)]
    refine .sq (I := fun _ => True) (A := fun _ => True) ?_ (fun _ _ => .ok trivial) fun _ _ => trivial
    rw [bind_ok]
    refine .ite (fun h5 => ?_) fun _ => .ok trivial
    have h5 : f.length = 5 := by have := of_decide_eq_true h5; omega
    rcases h.cases with ⟨a, b, rfl, ha, hb⟩ | ⟨a, b, c, rfl, ha, hb, hc⟩ | ⟨a, b, c, d, rfl, ha, hb, hc, hd⟩
    · simp at h5
    · simp at h5
    simp only [pg0, bind_okS]
    refine .sq (I := fun _ => True) (A := fun _ => True) ?_ (fun _ _ => .ok trivial) fun _ _ => trivial
    refine .bind (.prange2 (by omega) (by omega)) fun xs hxs => .loopF _ _ trivial fun _ s hs _ => ?_
    have hs' := hxs s hs
    refine .bind (.bind (.pmod (by omega)) fun _ _ => .ok (P := fun _ => True) trivial) fun _ _ => .ite (fun _ => ?_) fun _ => .ok trivial
    refine .sq (I := fun _ => True) (A := fun _ => True) ?_ (fun _ _ => .ok trivial) fun _ _ => trivial
    refine .loopF _ _ trivial fun _ t ht _ => ?_
    have ht' : t ≠ 0 ∧ t.natAbs ≤ 499 := by
      simp only [List.mem_cons, List.not_mem_nil, or_false] at ht
      rcases ht with rfl | rfl <;> omega
    refine .bind (pair_by_tot ha hb hc hd ht'.1 ht'.2) fun o _ => ?_
    exact .ite (fun _ => .ok trivial) fun _ => .ok trivial
end T

set_option maxRecDepth 100000
set_option maxHeartbeats 1000000
namespace T
open PySem PySem.Spec PyProof.Rows L2
theorem primes_same : c_PRIMES = primesL := rfl
theorem pr_bd {p : Int} (h : p ∈ primesL) : 1 < p ∧ p < 200 := ⟨(primes_fact p h).1, (primes_fact p h).2.1⟩
theorem mod_at_tot {f : List Int} {x p : Int} (hp : 0 < p) (hx : x.natAbs < 18446744073709551616) : Tot (m_mod_at f x p) fun _ => True := by
  unfold m_mod_at
  simp only [bind_okS, bind_bind]
  refine .bind (P := fun _ => True) (.loopM (fun _ => True) trivial fun c y _ _ => ?_) fun _ _ => .ok trivial
  exact .bind (.pmul_r hx) fun _ _ => .bind (.pmod hp) fun _ _ => .ok trivial
theorem pl1 (x low : Int) : x = low ∨ x = 1 → x ∈ [low, 1] := fun h => by simp; exact h
/-- a step of the split: a root is parted off -/
theorem part_root {f : List Int} {low p : Int} (h : p ∈ primesL) (hl : 0 ≤ low) (hl2 : low < p) (hc : Cut f) (hr : Red p f) (h1 : 1 < f.length) (h5 : f.length ≤ 1000) :
    Tot (m_mod_parted f [low, 1] p) fun r => Cut r.1 ∧ Red p r.1 ∧ r.1.length < f.length := by
  obtain ⟨p1, p2⟩ := pr_bd h
  have hG : modP p [low, 1] = [low, 1] := by
    refine modP_eq (by omega) (.inr ⟨1, [low], rfl, by decide⟩) (Red.of (by omega) fun x hx => ?_) (CgP.refl _ _)
    simp only [List.mem_cons, List.not_mem_nil, or_false] at hx
    rcases hx with rfl | rfl <;> omega
  have hc1 : co [low, 1] 1 = 1 := rfl
  obtain ⟨Q, R, e, cQ, cR, rQ, rR, lR, lQ, eq⟩ := mod_parted_ok (f := f) (g := [low, 1]) (G := [low, 1]) (d := 1) p1 (by omega) hG rfl (by
    rw [hc1, Int.emod_eq_of_lt (by decide) p1]
    exact fun d h1 _ => h1) (by omega) (by show 2 ≤ 100000; decide)
  refine ⟨(Q, R), e, cQ, rQ, ?_⟩
  dsimp only
  by_cases hq : Q.length < f.length
  · exact hq
  · exfalso
    have hlen : Q.length = f.length := by omega
    have hne : Q ≠ [] := by intro z; rw [z] at hlen; simp at hlen; omega
    have top := mulP_top [low, 1] (by show 0 < 2; decide) Q (by omega)
    have e1 : Q.length + ([low, 1] : List Int).length - 2 = f.length := by rw [hlen]; simp
    rw [e1] at top
    have hcong := eq f.length
    rw [addP_co, top, co_out (xs := f) (Nat.le_refl _), co_out (xs := R) (by omega), Int.add_zero] at hcong
    have hlast : co [low, 1] (([low, 1] : List Int).length - 1) = 1 := rfl
    rw [hlast, Int.mul_one, hlen] at hcong
    have hz := cQ.last hne
    rw [hlen] at hz
    have := hcong.small (by omega) (by omega) (rQ _).1 (rQ _).2
    exact hz this.symm
/-- a factor as it is told -/
def Fac (p : Int) (g : List Int) : Prop := 2 ≤ g.length ∧ g.length ≤ 5 ∧ ∀ x ∈ g, 0 ≤ x ∧ x < p
theorem pair_of_tot {f : List Int} {p : Int} (h : p ∈ primesL) (hr : Red p f) (h5 : f.length = 5) : Tot (m_pair_of f p) fun o => ∀ l, o = some l → ∃ x y, l = [x, y] ∧ x.length = 3 ∧ y.length = 3 ∧ Fac p x ∧ Fac p y := by
  obtain ⟨p1, p2⟩ := pr_bd h
  match f, h5, hr with
  | [a, b, c, d, e], _, hr =>
  have hm := hr.mem
  have ha := hm a (by simp)
  have hb := hm b (by simp)
  have hc := hm c (by simp)
  have hd := hm d (by simp)
  unfold m_pair_of
  rw [show asRec4 (cutL [a, b, c, d, e] none (some 4)) = ok (a, b, c, d) from rfl, bind_ok]
  have tn : ∀ x : Int, x % p ≠ 0 → ∃ t, m_turned x p = ok t ∧ 0 ≤ t ∧ t < p := fun x hx => by
    obtain ⟨t, e, t0, t1, _⟩ := turned_ok (a := x) (p := p) p1 (by omega) ((isP_of h).2.2 x hx)
    exact ⟨t, e, t0, t1⟩
  refine .sq (I := fun _ => True) (A := fun o : Option (List (List Int)) => ∀ l, o = some l → ∃ x y, l = [x, y] ∧ x.length = 3 ∧ y.length = 3 ∧ Fac p x ∧ Fac p y) ?_ (fun _ _ => .ok fun l hl => nomatch hl) fun _ h => h
  refine .bind (.prange2 (by omega) (by omega)) fun xs hxs => .loopF _ _ trivial fun _ z hz _ => ?_
  have hz' := hxs z hz
  have fin : ∀ w x y : Int, 0 ≤ w → w < p → 0 ≤ x → x < p → 0 ≤ y → y < p → ∀ l, some [[z, w, 1], [x, y, 1]] = some l → ∃ x y, l = [x, y] ∧ x.length = 3 ∧ y.length = 3 ∧ Fac p x ∧ Fac p y := fun w x y h1 h2 h3 h4 h5 h6 l hl => by
    cases hl
    refine ⟨_, _, rfl, rfl, rfl, ⟨by simp, by simp, fun q hq => ?_⟩, ⟨by simp, by simp, fun q hq => ?_⟩⟩
    · simp only [List.mem_cons, List.not_mem_nil, or_false] at hq
      rcases hq with rfl | rfl | rfl <;> omega
    · simp only [List.mem_cons, List.not_mem_nil, or_false] at hq
      rcases hq with rfl | rfl | rfl <;> omega
  obtain ⟨t, et, t0, t1⟩ := tn z (by rw [Int.emod_eq_of_lt (by omega) (by omega)]; omega)
  simp only [bind_bind, bind_okS, et]
  refine .bind (.pmul_l (by omega)) fun u _ => .bind (.pmod (by omega)) fun v hv => ?_
  refine .ite (fun hne => ?_) fun _ => ?_
  · have hvz : (v - z) % p ≠ 0 := by
      have hne' : z ≠ v := by intro k; simp [k] at hne
      intro k
      have := Int.emod_emod_of_dvd
      obtain ⟨q, hq⟩ := Int.dvd_of_emod_eq_zero k
      have h1 : q < 1 := by
        by_cases c : q < 1
        · exact c
        · have : p * 1 ≤ p * q := Int.mul_le_mul_of_nonneg_left (by omega) (by omega)
          omega
      have h2 : -1 < q := by
        by_cases c : -1 < q
        · exact c
        · have : p * q ≤ p * (-1) := Int.mul_le_mul_of_nonneg_left (by omega) (by omega)
          omega
      have : q = 0 := by omega
      subst this
      omega
    obtain ⟨t', et', t0', t1'⟩ := tn (v - z) hvz
    refine .bind (.pmul_l (by omega)) fun _ _ => ?_
    rw [et', bind_ok]
    refine .bind (.pmul_r (by omega)) fun _ _ => .bind (.pmod (by omega)) fun w hw => ?_
    refine .bind (.pmul_l (by omega)) fun _ _ => .bind (.pmod (by omega)) fun _ _ => .ite (fun _ => ?_) fun _ => .ok trivial
    refine .bind (.pmod (by omega)) fun y hy => ?_
    rw [psz_ok (by simp), bind_ok, psz_ok (by simp), bind_ok]
    exact .ok (fin w v y hw.2.1 hw.2.2 hv.2.1 hv.2.2 hy.2.1 hy.2.2)
  · refine .bind (.pmul_l (by omega)) fun _ _ => .bind (.pmod (by omega)) fun _ _ => .ite (fun _ => ?_) fun _ => .ok trivial
    refine .sq (I := fun _ => True) (A := fun o : Option (List (List Int)) => ∀ l, o = some l → ∃ x y, l = [x, y] ∧ x.length = 3 ∧ y.length = 3 ∧ Fac p x ∧ Fac p y) ?_ (fun _ _ => .ok trivial) fun _ h => h
    refine .bind (.prangeI (by omega) (by omega)) fun ys hys => .loopF _ _ trivial fun _ w hw _ => ?_
    subst hys
    have hw := mem_rangeL hw
    refine .bind (.pmul_l (by omega)) fun _ _ => .bind (.pmod (by omega)) fun _ _ => .ite (fun _ => ?_) fun _ => .ok trivial
    refine .bind (.pmod (by omega)) fun y hy => ?_
    rw [psz_ok (by simp), bind_ok, psz_ok (by simp), bind_ok]
    exact .ok (fin w v y (by omega) (by omega) hv.2.1 hv.2.2 hy.2.1 hy.2.2)
theorem sortOk_of {xs : List (List Int)} {d : Nat} (h64 : xs.length < 64) (hd : 1 ≤ d) (hne : xs ≠ []) (hall : ∀ x ∈ xs, x.length = d ∧ ∀ m ∈ x, 0 ≤ m ∧ m < 1000) : sortOk xs = true := by
  cases xs with
  | nil => exact absurd rfl hne
  | cons y ys =>
    have hy : y.length = d := (hall y List.mem_cons_self).1
    have e : ((y :: ys).headD [0]).length = d := hy
    unfold sortOk
    refine Bool.and_eq_true_iff.mpr ⟨Bool.and_eq_true_iff.mpr ⟨decide_eq_true h64, decide_eq_true (by omega)⟩, List.all_eq_true.mpr fun x hx => Bool.and_eq_true_iff.mpr ⟨decide_eq_true ((hall x hx).1.trans e.symm), List.all_eq_true.mpr fun m hm => ?_⟩⟩
    exact Bool.and_eq_true_iff.mpr ⟨decide_eq_true ((hall x hx).2 m hm).1, decide_eq_true ((hall x hx).2 m hm).2⟩
theorem sortOk_pair {p : Int} {x y : List Int} (h2 : p < 200) (hx : x.length = 3) (hy : y.length = 3) (fx : Fac p x) (fy : Fac p y) : sortOk [x, y] = true := by
  refine sortOk_of (d := 3) (by show 2 < 64; decide) (by decide) (by simp) fun z hz => ?_
  simp only [List.mem_cons, List.not_mem_nil, or_false] at hz
  rcases hz with rfl | rfl
  · exact ⟨hx, fun m hm => ⟨(fx.2.2 m hm).1, by have := (fx.2.2 m hm).2; omega⟩⟩
  · exact ⟨hy, fun m hm => ⟨(fy.2.2 m hm).1, by have := (fy.2.2 m hm).2; omega⟩⟩
theorem sortT_perm (xs : List (List Int)) : (sortT xs).Perm xs := List.mergeSort_perm _ _
def Parts (p : Int) (n : Nat) (l : List (List Int × Int)) : Prop := l.length ≤ n ∧ ∀ g ∈ l, Fac p g.1
theorem rootless_tot {f : List Int} {p : Int} (h : p ∈ primesL) (hr : Red p f) (h2 : 2 ≤ f.length) (h5 : f.length ≤ 5) : Tot (m_rootless f p) (Parts p 2) := by
  obtain ⟨p1, p2⟩ := pr_bd h
  unfold m_rootless
  have ff : Fac p f := ⟨h2, h5, hr.mem⟩
  rw [bind_ok]
  refine .bind (P := fun o : Option (List (List Int)) => ∀ l, o = some l → ∃ x y, l = [x, y] ∧ x.length = 3 ∧ y.length = 3 ∧ Fac p x ∧ Fac p y) ?_ fun o ho => ?_
  · rw [bind_ok]
    refine .ite (fun h5 => ?_) fun _ => .ok fun l hl => nomatch hl
    rw [bind_ret]
    exact pair_of_tot h hr (by have := of_decide_eq_true h5; omega)
  · rw [bind_ok]
    cases o with
    | none => exact .ok ⟨by simp, fun g hg => by simp at hg; subst hg; exact ff⟩
    | some l =>
      obtain ⟨x, y, rfl, hx, hy, fx, fy⟩ := ho _ rfl
      rw [if_neg (show ¬ (some [x, y]).isNone = true from fun z => nomatch z)]
      simp only [unO_some, bind_okS, pg0, pg1]
      refine .ite (fun _ => ?_) fun _ => ?_
      · rw [psz_ok (by simp)]
        exact .ok ⟨by simp, fun g hg => by simp at hg; subst hg; exact fx⟩
      · unfold psortT
        rw [grd_pos (sortOk_pair p2 hx hy fx fy), bind_ok]
        have hp := sortT_perm [x, y]
        have hlen : (sortT [x, y]).length = 2 := hp.length_eq
        refine (Tot.mapC (P := fun g : List Int × Int => Fac p g.1) (fun g hg => .ok ?_) (by omega)).mono fun l hl => ⟨by omega, hl.2⟩
        have := hp.subset hg
        simp only [List.mem_cons, List.not_mem_nil, or_false] at this
        rcases this with rfl | rfl
        · exact fx
        · exact fy
theorem mem_primes {p : Int} (h : p ∈ primesL) : (!decide (p ∈ c_PRIMES)) = false := by rw [primes_same, decide_eq_true h]; rfl
theorem split_by_tot {f : List Int} {p : Int} (h : p ∈ primesL) (hf : f.length ≤ 5) : Tot (m_split_by f p) (Parts p 300) := by
  obtain ⟨p1, p2⟩ := pr_bd h
  unfold m_split_by
  rw [mem_primes h, bind_ok, if_neg (by decide), mod_poly_ok (by omega) (by omega), bind_ok, bind_ok]
  have l0 := modP_len p f
  refine .bind (P := fun s : List Int × List (List Int × Int) => (Cut s.1 ∧ Red p s.1 ∧ s.1.length ≤ 5) ∧ Parts p 200 s.2) ?_ fun s hs => ?_
  · refine .bind (.prangeI (by omega) (by omega)) fun xs hxs => ?_
    subst hxs
    refine (Tot.loopMi (fun i (s : List Int × List (List Int × Int)) => (Cut s.1 ∧ Red p s.1 ∧ s.1.length ≤ 5) ∧ Parts p i s.2) (c := (modP p f, ([] : List (List Int × Int)))) ⟨⟨modP_cut p f, modP_red (by omega) f, (by show (modP p f).length ≤ 5; omega)⟩, (by show 0 ≤ 0; omega), (fun g hg => nomatch hg)⟩ fun i s low hlow hs => ?_).mono fun s hs => ⟨hs.1, by have := hs.2.1; rw [rangeL_len] at this; omega, hs.2.2⟩
    have hi := (List.getElem?_eq_some_iff.mp hlow).1
    rw [rangeL_len] at hi
    have hlow := mem_rangeL (List.mem_of_getElem? hlow)
    obtain ⟨⟨c0, r0, l0⟩, n0, g0⟩ := hs
    rw [bind_ok]
    refine .bind (Tot.whileM (fun s : List Int × Int => Cut s.1 ∧ Red p s.1 ∧ s.1.length ≤ 5) (fun s => s.1.length) ⟨c0, r0, l0⟩ fun c hc => ?_) fun c hc => ?_
    · rw [bind_ok]
      by_cases hl1 : 1 < c.1.length
      · rw [if_pos (decide_eq_true (show (1 : Int) < (c.1.length : Int) by omega))]
        refine (Tot.bind (mod_at_tot (by omega) (by omega)) fun v _ => .ok (P := fun _ => True) trivial).mono fun z _ _ => ?_
        simp only [bind_bind, bind_okS]
        refine .bind (part_root h (by omega) (by omega) hc.1 hc.2.1 hl1 (by omega)) fun r hr => ?_
        exact .ok ⟨⟨hr.1, hr.2.1, by have := hr.2.2; dsimp only; omega⟩, hr.2.2⟩
      · rw [decide_eq_false (show ¬ (1 : Int) < (c.1.length : Int) by omega), if_neg (by decide)]
        exact .ok fun z => nomatch z
    · rw [bind_ok]
      refine .ite (fun _ => ?_) fun _ => .ok ⟨hc.1, Nat.le_succ_of_le n0, g0⟩
      refine .bind (.papp (by omega)) fun q hq => .ok ⟨hc.1, ?_, fun g hg => ?_⟩
      · dsimp only; rw [hq, List.length_append]; simp only [List.length_cons, List.length_nil]; omega
      · dsimp only at hg
        rw [hq] at hg
        rcases List.mem_append.mp hg with z | z
        · exact g0 g z
        · have : g = ([low, 1], c.2) := by simpa using z
          subst this
          refine ⟨by show 2 ≤ 2; omega, by show 2 ≤ 5; omega, fun x hx => ?_⟩
          simp only [List.mem_cons, List.not_mem_nil, or_false] at hx
          rcases hx with rfl | rfl <;> omega
  · obtain ⟨⟨c0, r0, l0⟩, n0, g0⟩ := hs
    rw [bind_ret, bind_ok]
    refine .ite (fun h1 => ?_) fun _ => .ok ⟨by omega, g0⟩
    have h1 := of_decide_eq_true h1
    rw [bind_ret]
    refine .bind (rootless_tot h r0 (by omega) l0) fun l hl => ?_
    refine (Tot.pcat (by have := hl.1; omega)).mono fun q hq => ?_
    rw [hq]
    refine ⟨by rw [List.length_append]; have := hl.1; omega, fun g hg => ?_⟩
    rcases List.mem_append.mp hg with z | z
    · exact g0 g z
    · exact hl.2 g z
theorem parts_of_tot {f : List Int} {p : Int} (h : p ∈ primesL) (hf : f.length ≤ 5) : Tot (m_parts_of f p) fun l => l.length ≤ 300 ∧ (∀ g ∈ l, Fac p g.1) ∧ ∀ g ∈ l, g.2.2.length ≤ 100000 := by
  obtain ⟨p1, p2⟩ := pr_bd h
  unfold m_parts_of
  rw [bind_ok, bind_ret]
  refine .bind (split_by_tot h hf) fun parts hp => ?_
  refine (Tot.loopMi (fun i (l : List (List Int × Int × List Int)) => l.length = i ∧ (∀ g ∈ l, Fac p g.1) ∧ ∀ g ∈ l, g.2.2.length ≤ 100000) (c := ([] : List (List Int × Int × List Int))) ⟨rfl, (fun g hg => nomatch hg), (fun g hg => nomatch hg)⟩ fun i l x hx hl => ?_).mono fun l hl => ⟨by rw [hl.1]; exact hp.1, hl.2⟩
  have hi := (List.getElem?_eq_some_iff.mp hx).1
  have fx := hp.2 x (List.mem_of_getElem? hx)
  have hn := hp.1
  simp only [bind_bind, bind_okS, bind_ret]
  refine .bind (poly_parted_tot (d := x.1.length - 1) (by have := fx.1; omega) (fun y hy => by have := fx.2.2 y hy; omega) (by omega) (by have := fx.2.1; omega)) fun r hr => ?_
  have hr2 := hr.2
  have hx5 := fx.2.1
  refine (Tot.papp (by omega)).mono fun q hq => ?_
  rw [hq]
  refine ⟨by rw [List.length_append, hl.1]; rfl, fun g hg => ?_, fun g hg => ?_⟩
  · rcases List.mem_append.mp hg with z | z
    · exact hl.2.1 g z
    · simp only [List.mem_cons, List.not_mem_nil, or_false] at z
      rw [z]; exact fx
  · rcases List.mem_append.mp hg with z | z
    · exact hl.2.2 g z
    · simp only [List.mem_cons, List.not_mem_nil, or_false] at z
      rw [z]; dsimp only; omega
theorem square_primes_tot (size : Int) : Tot (m_square_primes size) fun l => ∀ p ∈ l, p ∈ primesL := by
  unfold m_square_primes
  rw [show m_small_primes = ok primesL from rfl, bind_ok]
  refine ⟨_, compL_ok (p := fun p => decide (size.fmod (p * p) = 0)) (g := fun p => p) (fun p hp => ?_) (fun _ _ _ => rfl) (by rw [sizeLineE]; decide), fun p hp => ?_⟩
  · obtain ⟨p1, p2⟩ := pr_bd hp
    have hne : p * p ≠ 0 := by
      intro z
      rcases Int.mul_eq_zero.mp z with z | z <;> omega
    simp only [bind_bind]
    rw [pmul_left (by rw [pow64]; omega), bind_ok, pmod_ok hne, bind_ok]
  · rw [List.map_id'] at hp
    exact (List.mem_filter.mp hp).1
theorem divides_all_tot {m : Int} {row : List Int} (hm : m ≠ 0) (hl : row.length ≤ 100000) : Tot (m_divides_all m row) fun _ => True := by
  unfold m_divides_all
  exact .bind (Tot.mapC (P := fun _ => True) (fun x _ => .bind (.pmod0 hm) fun _ _ => .ok trivial) (by omega)) fun _ _ => .ok trivial
theorem outside_tot {f : List Int} (h : Gd f) (size : Int) : Tot (m_outside f size) fun _ => True := by
  unfold m_outside
  have hl := h.len
  refine .sq (I := fun _ => True) (A := fun _ => True) (.bind (square_primes_tot size) fun ps hps => .loopF _ _ trivial fun _ p hp _ => ?_) (fun _ _ => .ok trivial) fun _ _ => trivial
  have hp := hps p hp
  obtain ⟨p1, p2⟩ := pr_bd hp
  refine .sq (I := fun _ => True) (A := fun _ => True) (.bind (parts_of_tot hp hl.2) fun parts hparts => .loopF _ _ trivial fun _ x hx _ => ?_) (fun _ _ => .ok trivial) fun _ _ => trivial
  have fx := hparts.2.1 x hx
  have hne : p * p ≠ 0 := by
    intro z
    rcases Int.mul_eq_zero.mp z with z | z <;> omega
  refine .bind (P := fun _ => True) ?_ fun z _ => .ite (fun _ => ?_) fun _ => .ok trivial
  · rw [bind_ok]
    refine .ite (fun _ => ?_) fun _ => .ok trivial
    rw [pmul_left (by rw [pow64]; omega), bind_ok]
    exact divides_all_tot hne (hparts.2.2 x hx)
  · refine .bind (P := fun l : List Int => l.length ≤ 5) ?_ fun row hrow => .bind (P := fun _ => True) ?_ fun r _ => .ok trivial
    · simp only [bind_bind, bind_okS]
      refine .bind (poly_parted_tot (d := x.1.length - 1) (by have := fx.1; omega) (fun y hy => by have := fx.2.2 y hy; omega) (by omega) (by have := fx.2.1; omega)) fun r hr => ?_
      have hr1 := hr.1
      exact (Tot.mapC (P := fun _ => True) (fun y _ => (Tot.pmod (by omega)).mono fun _ _ => trivial) (by omega)).mono fun l hl' => by rw [hl'.1]; omega
    · refine (Tot.whileM (fun l : List Int => l.length ≤ 5) (fun l => 5 - l.length) hrow fun c hc => .ok fun hz => ?_).mono fun _ _ => trivial
      have hz := of_decide_eq_true hz
      refine .bind (.papp (by omega)) fun q hq => .ok ⟨?_, ?_⟩
      · rw [hq, List.length_append]; simp only [List.length_cons, List.length_nil]; omega
      · rw [hq, List.length_append]; simp only [List.length_cons, List.length_nil]; omega
/-- a ring that was made -/
structure RgOk (r : Rg) : Prop where
  gd : Gd r.1
  deg : r.2.1 = (r.1.length : Int) - 1
  me : m_measure r.1 = ok r.2.2
  sm : r.2.2.natAbs ≤ 39999
theorem Ring_cases (f : List Int) : (∃ r, m_Ring f = ok r ∧ r.1 = f ∧ RgOk r) ∨ ∃ e, m_Ring f = exc e ∧ tbl_RingError.lookup e.cls = some true := by
  unfold m_Ring
  rcases check_cases f with ⟨hc, hg⟩ | hc
  · obtain ⟨o, eo, _⟩ := apart_tot hg hc
    rw [eo, bind_ok, bind_ok]
    cases o with
    | some q =>
      right
      rw [if_pos (show (some q).isSome = true from rfl)]
      exact ⟨_, rfl, (show tbl_RingError.lookup ("FallsApart" : Str) = some true by decide +kernel)⟩
    | none =>
      rw [if_neg (show ¬ (none : Option (List Int × List Int)).isSome = true from fun z => nomatch z), bind_ok]
      obtain ⟨v, ev⟩ := measure_tot hg
      rw [ev, bind_ok, bind_ok]
      by_cases hs : c_GREATEST < (v.natAbs : Int)
      · right
        rw [if_pos (decide_eq_true hs)]
        exact ⟨_, rfl, by decide +kernel⟩
      · rw [if_neg (by simpa using hs), bind_ok]
        obtain ⟨l, el, _⟩ := outside_tot hg v
        rw [el, bind_ok, bind_ok]
        cases l with
        | some q =>
          right
          rw [if_pos (show (some q).isSome = true from rfl)]
          exact ⟨_, rfl, (show tbl_RingError.lookup ("NotWhole" : Str) = some true by decide +kernel)⟩
        | none =>
          left
          rw [if_neg (show ¬ (none : Option (Int × List Int)).isSome = true from fun z => nomatch z), bind_ok, bind_ok, bind_ok, bind_ok]
          have hG : c_GREATEST = 39999 := rfl
          exact ⟨_, rfl, rfl, hg, rfl, ev, by rw [hG] at hs; dsimp only; omega⟩
  · right
    unfold m_apart
    rw [hc, bind_exc, bind_exc, bind_exc]
    exact ⟨_, rfl, by decide +kernel⟩
theorem shifted_tot {f : List Int} {s : Int} (h1 : 1 ≤ f.length) (h2 : f.length ≤ 1000) (hs : s.natAbs < 18446744073709551616) : Tot (m_l_shifted f s) fun g => g.length = f.length := by
  unfold m_l_shifted
  simp only [bind_okS, bind_ret]
  refine .bind (.prangeI (by omega) (by omega)) fun xs hxs => .loopM (fun g : List Int => g.length = f.length) rfl fun g low hlow hg => ?_
  subst hxs
  have hlow := mem_rangeL hlow
  refine .bind (.prangeD (by omega) (by omega)) fun ys hys => .loopM (fun g : List Int => g.length = f.length) hg fun g j hj hg => ?_
  have hj := hys j hj
  simp only [bind_bind]
  refine .bind (.pget (by omega) (by omega)) fun _ _ => .bind (.pget (by omega) (by omega)) fun _ _ => .bind (.pmul_l hs) fun _ _ => ?_
  rw [bind_ok]
  exact (Tot.pset (by omega) (by omega)).mono fun g' h => by rw [h.2, hg]
theorem l_poly_tot (cell : Int) {prime : Int} (hp : 0 < prime) : Tot (m_l_poly cell prime) fun _ => True := by
  unfold m_l_poly
  obtain ⟨a, ea, da⟩ := draws_ok cell (ws := [3, 8]) (prime := prime) Widths.of hp
  obtain ⟨b, eb, db⟩ := draws_ok cell (ws := [3, 8, 999, 999, 999, 999]) (prime := prime) Widths.of hp
  obtain ⟨c, ec, dc⟩ := draws_ok cell (ws := [3, 8, 9, 9, 9, 5, 7]) (prime := prime) Widths.of hp
  obtain ⟨d, ed, dd⟩ := draws_ok cell (ws := [3, 8, 161, 41]) (prime := prime) Widths.of hp
  obtain ⟨e, ee, de⟩ := draws_ok cell (ws := [3, 8, 7, 7, 7, 5, 7]) (prime := prime) Widths.of hp
  obtain ⟨a0, ra0, _, _⟩ := da.at (i := 0) (w := 3) rfl
  obtain ⟨a1, ra1, _, _⟩ := da.at (i := 1) (w := 8) rfl
  obtain ⟨c2, rc2, _, _⟩ := dc.at (i := 2) (w := 9) rfl
  obtain ⟨c3, rc3, _, _⟩ := dc.at (i := 3) (w := 9) rfl
  obtain ⟨c4, rc4, _, _⟩ := dc.at (i := 4) (w := 9) rfl
  obtain ⟨c5, rc5, q1, q2⟩ := dc.at (i := 5) (w := 5) rfl
  obtain ⟨d2, rd2, _, _⟩ := dd.at (i := 2) (w := 161) rfl
  obtain ⟨d3, rd3, _, _⟩ := dd.at (i := 3) (w := 41) rfl
  obtain ⟨e2, re2, _, _⟩ := de.at (i := 2) (w := 7) rfl
  obtain ⟨e3, re3, _, _⟩ := de.at (i := 3) (w := 7) rfl
  obtain ⟨e4, re4, _, _⟩ := de.at (i := 4) (w := 7) rfl
  obtain ⟨e6, re6, _, _⟩ := de.at (i := 6) (w := 7) rfl
  have pa0 : pget a 0 = ok a0 := pget_some (i := 0) ra0
  have pa1 : pget a 1 = ok a1 := pget_some (i := 1) ra1
  have pc2 : pget c 2 = ok c2 := pget_some (i := 2) rc2
  have pc3 : pget c 3 = ok c3 := pget_some (i := 3) rc3
  have pc4 : pget c 4 = ok c4 := pget_some (i := 4) rc4
  have pc5 : pget c 5 = ok c5 := pget_some (i := 5) rc5
  have pd2 : pget d 2 = ok d2 := pget_some (i := 2) rd2
  have pd3 : pget d 3 = ok d3 := pget_some (i := 3) rd3
  have pe2 : pget e 2 = ok e2 := pget_some (i := 2) re2
  have pe3 : pget e 3 = ok e3 := pget_some (i := 3) re3
  have pe4 : pget e 4 = ok e4 := pget_some (i := 4) re4
  have pe6 : pget e 6 = ok e6 := pget_some (i := 6) re6
  simp only [bind_bind, bind_okS, ea, eb, ec, ed, ee, pa0, pa1, pc2, pc3, pc4, pc5, pd2, pd3, pe2, pe3, pe4, pe6]
  have hb6 : b.length = 6 := db.1
  have hcut : ∀ x y : Option Int, (cutL b x y).length ≤ 6 := fun x y => by
    unfold cutL
    rw [List.length_take, List.length_drop, hb6]
    omega
  refine .ite (fun _ => ?_) fun _ => .ite (fun _ => ?_) fun _ => .ite (fun _ => ?_) fun _ => ?_
  · have := hcut (some 2) (some (a0 + 4))
    refine .bind (Tot.mapC (P := fun _ => True) (fun _ _ => .ok trivial) (by omega)) fun l hl => (Tot.pcat (by rw [hl.1]; simp; omega)).mono fun _ _ => trivial
  · exact .eq (psz_ok (by simp)) trivial
  · rw [psz_ok (by simp), bind_ok]
    exact (shifted_tot (by simp) (by simp) (by omega)).mono fun _ _ => trivial
  · obtain ⟨e5, re5, _, _⟩ := de.at (i := 5) (w := 5) rfl
    have pe5 : pget e 5 = ok e5 := pget_some (i := 5) re5
    rw [psz_ok (by simp), bind_ok, pe5, bind_ok]
    exact (shifted_tot (by simp) (by simp) (by omega)).mono fun _ _ => trivial
theorem known_tot (cell : Int) : ∃ f r, m_l_known_ring cell = ok f ∧ m_Ring f = ok r := by
  unfold m_l_known_ring
  obtain ⟨x, e, _, _⟩ := mixed_ok cell (k := 3) (prime := 998244353) (by decide) (by decide) (by decide)
  rw [bind_ok, pcat_ok (by simp), bind_ok, e, bind_ok, bind_ok]
  have : x % 12 = 0 ∨ x % 12 = 1 ∨ x % 12 = 2 ∨ x % 12 = 3 ∨ x % 12 = 4 ∨ x % 12 = 5 ∨ x % 12 = 6 ∨ x % 12 = 7 ∨ x % 12 = 8 ∨ x % 12 = 9 ∨ x % 12 = 10 ∨ x % 12 = 11 := by omega
  rcases this with h | h | h | h | h | h | h | h | h | h | h | h <;> rw [h]
  · exact ⟨[5, 0, 1], ([5, 0, 1], 2, -20), rfl, by kernel_rfl⟩
  · exact ⟨[-10, 0, 1], ([-10, 0, 1], 2, 40), rfl, by kernel_rfl⟩
  · exact ⟨[6, 1, 1], ([6, 1, 1], 2, -23), rfl, by kernel_rfl⟩
  · exact ⟨[-3, 0, 1], ([-3, 0, 1], 2, 12), rfl, by kernel_rfl⟩
  · exact ⟨[-1, -1, 0, 1], ([-1, -1, 0, 1], 3, -23), rfl, by kernel_rfl⟩
  · exact ⟨[-2, 0, 0, 1], ([-2, 0, 0, 1], 3, -108), rfl, by kernel_rfl⟩
  · exact ⟨[-1, 4, 0, 1], ([-1, 4, 0, 1], 3, -283), rfl, by kernel_rfl⟩
  · exact ⟨[1, 0, 0, 0, 1], ([1, 0, 0, 0, 1], 4, 256), rfl, by kernel_rfl⟩
  · exact ⟨[-1, -1, 0, 0, 1], ([-1, -1, 0, 0, 1], 4, -283), rfl, by kernel_rfl⟩
  · exact ⟨[1, 1, 1, 1, 1], ([1, 1, 1, 1, 1], 4, 125), rfl, by kernel_rfl⟩
  · exact ⟨[-2, 0, 0, 0, 1], ([-2, 0, 0, 0, 1], 4, -2048), rfl, by kernel_rfl⟩
  · exact ⟨[1, 0, -1, 0, 1], ([1, 0, -1, 0, 1], 4, 144), rfl, by kernel_rfl⟩
theorem ring_ok_of {f : List Int} {r : Rg} (h : m_Ring f = ok r) : RgOk r := by
  rcases Ring_cases f with ⟨r', e, _, q⟩ | ⟨e, h2, _⟩
  · rw [e] at h; cases h; exact q
  · rw [h2] at h; cases h
/-- a drawn ring -/
theorem l_ring_ok {ns : List Int} (hl : ns.length ≤ 63) {k prime : Int} (hk : 0 ≤ k) (hp : 0 < prime) : ∃ r, m_l_ring ns k prime = ok (some r) ∧ RgOk r := by
  suffices h : Tot (m_l_ring ns k prime) fun o => ∃ r, o = some r ∧ RgOk r by
    obtain ⟨o, e, r, rfl, hr⟩ := h
    exact ⟨r, e, hr⟩
  unfold m_l_ring
  rw [bind_ok]
  refine .bind (P := fun o => ∀ r, o = some r → RgOk r) ?_ fun o ho => ?_
  · rw [bind_ok]
    refine .loopM (fun o => ∀ r, o = some r → RgOk r) (fun r h => nomatch h) fun o j hj ho => ?_
    have hj := mem_rangeL hj
    rw [bind_ok]
    refine .ite (fun _ => ?_) fun _ => .ok ho
    obtain ⟨x, ex⟩ := cell_ok hl (k := k + j) (by omega)
    obtain ⟨f, ef, _⟩ := l_poly_tot x hp
    rw [bind_ret, ex, bind_ok, ef, bind_ok]
    rcases Ring_cases f with ⟨r, e, _, q⟩ | ⟨e, h2, h3⟩
    · rw [e, bind_ok, bind_ok]
      exact .ok fun r' h => by cases h; exact q
    · rw [h2, bind_exc, bind_exc]
      show Tot (match tbl_RingError.lookup e.cls with | some true => noX (M.bind (ok none) fun found12 => ok (found12)) | some false => exc e | none => none) _
      rw [h3]
      exact .ok fun r' h => nomatch h
  · rw [bind_ret]
    cases o with
    | some r => exact .ok ⟨r, rfl, ho r rfl⟩
    | none =>
      rw [bind_ok, if_pos (show (none : Option Rg).isNone = true from rfl)]
      obtain ⟨x, ex⟩ := cell_ok hl hk
      obtain ⟨f, r, ef, er⟩ := known_tot x
      rw [ex, bind_ok, ef, bind_ok, er, bind_ok, bind_ok]
      exact .ok ⟨r, rfl, ring_ok_of er⟩
end T

set_option maxRecDepth 100000
set_option maxHeartbeats 1000000
namespace T
open PySem PySem.Spec PyProof.Rows L2
theorem pr_nat {n : Nat} (h : n ≤ 1000000) : prangeI (n : Int) = ok (rangeL 0 n) := prangeI_nat (by
  have e : (2 : Nat) ^ 62 = 4611686018427387904 := by decide
  omega)
noncomputable def m_root_times (poly1 : (List Int)) (row2 : (List Int)) : M (List Int) :=
  (M.bind (pget row2 ((List.length row2 : Int) - 1)) fun last3 => (M.bind (pcat [0] (cutL row2 none (some ((List.length row2 : Int) - 1)))) fun ahead4 => (mapC (fun x5 => (M.bind (pmul last3 x5.2) fun u6 => ok (x5.1 - u6))) (List.zip ahead4 poly1))))
noncomputable def m_poly_table (poly1 : (List Int)) (x2 : (List Int)) : M (List (List Int)) :=
  (M.bind (ok ([] : List (List Int))) fun rows3 => (M.bind (ok x2) fun row4 => (M.bind (M.bind (prangeI (List.length x2 : Int)) fun xs => loopM (fun (s5 : (List (List Int)) × (List Int)) k6 => (M.bind (papp s5.1 s5.2) fun rows7 => (M.bind (m_root_times poly1 s5.2) fun row8 => ok (rows7, row8)))) (rows3, row4) xs) fun s9 => (ok s9.1))))
noncomputable def m_combined (numbers1 : (List Int)) (rows2 : (List (List Int))) : M (List Int) :=
  (M.bind (M.bind (pget rows2 0) fun u4 => ok (List.length u4 : Int)) fun many3 => (M.bind (prep [0] many3) fun total5 => (M.bind (M.bind (ok (List.zip numbers1 rows2)) fun xs => loopM (fun (total6 : (List Int)) x7 => (M.bind (M.bind (prangeI many3) fun xs => loopM (fun (total8 : (List Int)) k9 => (M.bind (M.bind (M.bind (pget total8 k9) fun u11 => M.bind (M.bind (pget x7.2 k9) fun u10 => (pmul x7.1 u10)) fun u12 => ok (u11 + u12)) fun u14 => (pset total8 k9 u14)) fun total13 => ok (total13))) (total6) xs) fun total15 => ok (total15))) (total5) xs) fun total16 => (ok total16))))
noncomputable def m_product_by (poly1 : (List Int)) (x2 : (List Int)) (y3 : (List Int)) : M (List Int) :=
  (M.bind (m_poly_table poly1 y3) fun u4 => (m_combined x2 u4))
noncomputable def m_add (ring1 : (Option Rg)) (x2 : (List Int)) (y3 : (List Int)) : M (List Int) :=
  (mapC (fun x4 => (ok (x4.1 + x4.2))) (List.zip x2 y3))
noncomputable def m_less (ring1 : (Option Rg)) (x2 : (List Int)) (y3 : (List Int)) : M (List Int) :=
  (mapC (fun x4 => (ok (x4.1 - x4.2))) (List.zip x2 y3))
noncomputable def m_times (ring1 : (Option Rg)) (x2 : (List Int)) (y3 : (List Int)) : M (List Int) :=
  (M.bind (M.bind (unO ring1) fun u4 => ok u4.1) fun u5 => (m_product_by u5 x2 y3))
noncomputable def m_l_times (poly_here1 : (List Int)) (x2 : (List Int)) (y3 : (List Int)) : M (List Int) :=
  (M.bind (ok ((List.length poly_here1 : Int) - 1)) fun many4 => (M.bind (prep [0] ((2 * many4) - 1)) fun raw5 => (M.bind (M.bind (prangeI many4) fun xs => loopM (fun (raw6 : (List Int)) i7 => (M.bind (M.bind (prangeI many4) fun xs => loopM (fun (raw8 : (List Int)) j9 => (M.bind (M.bind (M.bind (pget raw8 (i7 + j9)) fun u12 => M.bind (M.bind (pget x2 i7) fun u10 => M.bind (pget y3 j9) fun u11 => (pmul u10 u11)) fun u13 => ok (u12 + u13)) fun u15 => (pset raw8 (i7 + j9) u15)) fun raw14 => ok (raw14))) (raw6) xs) fun raw16 => ok (raw16))) (raw5) xs) fun raw17 => (M.bind (M.bind (prangeD ((2 * many4) - 2) (many4 - 1)) fun xs => loopM (fun (raw18 : (List Int)) k19 => (M.bind (M.bind (prangeI many4) fun xs => loopM (fun (raw20 : (List Int)) j21 => (M.bind (ok ((k19 - many4) + j21)) fun at_22 => (M.bind (M.bind (M.bind (pget raw20 at_22) fun u25 => M.bind (M.bind (pget raw20 k19) fun u23 => M.bind (pget poly_here1 j21) fun u24 => (pmul u23 u24)) fun u26 => ok (u25 - u26)) fun u28 => (pset raw20 at_22 u28)) fun raw27 => ok (raw27)))) (raw18) xs) fun raw29 => ok (raw29))) (raw17) xs) fun raw30 => (ok (cutL raw30 none (some many4)))))))
noncomputable def m_l_number (cell_here1 : Int) (many2 : Int) (prime3 : Int) : M (List Int) :=
  (M.bind (m_draws cell_here1 [5, 5] prime3) fun deep4 => (M.bind (M.bind (M.bind (M.bind (prep [100000000] (13 * many2)) fun u6 => (pcat [5, 5] u6)) fun u7 => (m_draws cell_here1 u7 prime3)) fun u8 => ok (cutL u8 (some 2) none)) fun found5 => (M.bind (ok ([] : List Int)) fun row_here9 => (M.bind (M.bind (prangeI many2) fun xs => loopM (fun (row_here10 : (List Int)) k11 => (M.bind (ok 0) fun far12 => (M.bind (M.bind (ok (cutL found5 (some (13 * k11)) (some ((13 * k11) + 13)))) fun xs => loopM (fun (far13 : Int) part14 => (M.bind (ok ((far13 * 100000000) + part14)) fun far15 => ok (far15))) (far12) xs) fun far16 => (M.bind (M.bind (M.bind (pget deep4 0) fun u17 => ok (decide (u17 = 0))) fun z18 => if z18 = true then (M.bind (ok ((far16 % 5) - 2)) fun far19 => ok (far19)) else ok (far16)) fun far20 => (M.bind (M.bind (M.bind (pget deep4 0) fun u21 => ok (decide (u21 = 1))) fun z22 => if z22 = true then (M.bind (ok ((far20 % 41) - 20)) fun far23 => ok (far23)) else ok (far20)) fun far24 => (M.bind (M.bind (M.bind (pget deep4 0) fun u25 => ok (decide (u25 = 2))) fun z26 => if z26 = true then (M.bind (ok ((far24 % 1999) - 999)) fun far27 => ok (far27)) else ok (far24)) fun far28 => (M.bind (M.bind (M.bind (pget deep4 0) fun u29 => ok (decide (u29 = 3))) fun z30 => if z30 = true then (M.bind (M.bind (pmod far28 (200000000000000000000 + 1)) fun u32 => ok (u32 - 100000000000000000000)) fun far31 => ok (far31)) else ok (far28)) fun far33 => (M.bind (M.bind (M.bind (pget deep4 0) fun u34 => ok (decide (u34 = 4))) fun z35 => if z35 = true then (M.bind (M.bind (pmod far33 (20000000000000000000000000000000000000000000000000000000000000000000000000000000000000000000000000000 - 1)) fun u37 => ok (u37 - (10000000000000000000000000000000000000000000000000000000000000000000000000000000000000000000000000000 - 1))) fun far36 => ok (far36)) else ok (far33)) fun far38 => (M.bind (M.bind (M.bind (pget deep4 1) fun u39 => ok (decide (u39 = k11))) fun z40 => if z40 = true then (M.bind (ok 0) fun far41 => ok (far41)) else ok (far38)) fun far42 => (M.bind (papp row_here10 far42) fun row_here43 => ok (row_here43))))))))))) (row_here9) xs) fun row_here44 => (ok row_here44)))))
noncomputable def m_l_few (cell_here1 : Int) (many2 : Int) (prime3 : Int) : M (List Int) :=
  (M.bind (M.bind (M.bind (prep [201] many2) fun u5 => (pcat [3] u5)) fun u6 => (m_draws cell_here1 u6 prime3)) fun deep4 => (M.bind (M.bind (pget deep4 0) fun u8 => (pget [2, 20, 100] u8)) fun wide7 => (mapC (fun place9 => (M.bind (pmod place9 ((2 * wide7) + 1)) fun u10 => ok (u10 - wide7))) (cutL deep4 (some 1) none))))
/-! ### congruence by a polynomial -/
def Cf (f p q : List Int) : Prop := ∃ u : List Int, ∀ t, co p t = co q t + co (mulP u f) t
theorem mulP_nil_l (f : List Int) (t : Nat) : co (mulP [] f) t = 0 := rfl
section
variable {f p q r s : List Int}
theorem Cf.of (h : ∀ t, co p t = co q t) : Cf f p q := ⟨[], fun t => by rw [h, mulP_nil_l]; omega⟩
theorem Cf.refl (f p : List Int) : Cf f p p := .of fun _ => rfl
theorem Cf.symm : Cf f p q → Cf f q p := fun ⟨u, h⟩ => ⟨scaleP (-1) u, fun t => by rw [mulP_scale_l, h]; omega⟩
theorem Cf.trans : Cf f p q → Cf f q r → Cf f p r := fun ⟨u, h⟩ ⟨v, g⟩ => ⟨addP u v, fun t => by rw [mulP_add_l, h, g]; omega⟩
theorem Cf.add : Cf f p q → Cf f r s → Cf f (addP p r) (addP q s) := fun ⟨u, h⟩ ⟨v, g⟩ => ⟨addP u v, fun t => by rw [mulP_add_l, addP_co, addP_co, h, g]; omega⟩
theorem Cf.scale (c : Int) : Cf f p q → Cf f (scaleP c p) (scaleP c q) := fun ⟨u, h⟩ => ⟨scaleP c u, fun t => by rw [mulP_scale_l, scaleP_co, scaleP_co, h, Int.mul_add]⟩
theorem mulP_cons0 (u f : List Int) : ∀ t, co (mulP (0 :: u) f) t = co (0 :: mulP u f) t
  | 0 => by rw [mulP_cons_zero, Int.zero_mul]; rfl
  | t + 1 => by rw [mulP_cons_succ, Int.zero_mul, Int.zero_add, co_succ]
theorem Cf.cons0 : Cf f p q → Cf f (0 :: p) (0 :: q) := fun ⟨u, h⟩ => ⟨0 :: u, fun t => by
  rw [mulP_cons0]
  cases t with
  | zero => rfl
  | succ t => rw [co_succ, co_succ, co_succ, h]⟩
theorem Cf.mul_l (r : List Int) : Cf f p q → Cf f (mulP r p) (mulP r q) := fun ⟨u, h⟩ => ⟨mulP r u, fun t => by
  rw [mulP_assoc, ← mulP_add_r]
  exact mulP_congr_r (fun t => by rw [addP_co, h]) r t⟩
theorem Cf.mul_r (r : List Int) (h : Cf f p q) : Cf f (mulP p r) (mulP q r) := ((Cf.of (mulP_comm p r)).trans (h.mul_l r)).trans (.of (mulP_comm r q))
theorem Cf.mul (h : Cf f p q) (g : Cf f r s) : Cf f (mulP p r) (mulP q s) := (h.mul_r r).trans (g.mul_l q)
/-- one rest for each -/
theorem Cf.uniq {n : Nat} (hf : f.length = n + 1) (h1 : co f n = 1) (hp : ∀ t, n ≤ t → co p t = 0) (hq : ∀ t, n ≤ t → co q t = 0) (h : Cf f p q) : ∀ t, co p t = co q t := by
  obtain ⟨u, h⟩ := h
  have hv : ∀ t, co (mulP (cutP u) f) t = co (mulP u f) t := mulP_congr_l f (cutP_co u)
  by_cases hn : cutP u = []
  · intro t
    rw [h, ← hv, hn, mulP_nil_l]; omega
  · exfalso
    have hpos : 0 < (cutP u).length := List.length_pos_iff.mpr hn
    have top := mulP_top f (by omega) (cutP u) hpos
    have hz := (cutP_cut u).last hn
    rw [hv, show f.length - 1 = n by omega, h1, Int.mul_one] at top
    have k := h ((cutP u).length + f.length - 2)
    rw [hp _ (by omega), hq _ (by omega), top] at k
    omega
theorem Cf.eq {n : Nat} (hf : f.length = n + 1) (h1 : co f n = 1) (hp : p.length = n) (hq : q.length = n) (h : Cf f p q) : p = q :=
  co_ext (hp.trans hq.symm) (h.uniq hf h1 (fun t ht => co_out (by omega)) fun t ht => co_out (by omega))
theorem mulP_one_l (c : Int) (f : List Int) : ∀ t, co (mulP [c] f) t = c * co f t
  | 0 => mulP_cons_zero c [] f
  | t + 1 => by rw [mulP_cons_succ, mulP_nil_l]; omega
end
/-! ### the root's powers times a number -/
theorem zip_map_co {α : Type} (a b : List Int) (g : Int × Int → Int) (n : Nat) (ha : a.length = n) (hb : n ≤ b.length) (t : Nat) : co ((List.zip a b).map g) t = if t < n then g (co a t, co b t) else 0 := by
  by_cases ht : t < n
  · rw [if_pos ht]
    have h1 : t < ((List.zip a b).map g).length := by rw [List.length_map, List.length_zip]; omega
    rw [co_get h1, List.getElem_map, List.getElem_zip, co_get (by omega), co_get (by omega)]
  · rw [if_neg ht, co_out (by rw [List.length_map, List.length_zip]; omega)]
theorem root_times_ok {f row : List Int} {n a b : Nat} (hf : f.length = n + 1) (h1 : co f n = 1) (hr : row.length = n) (hn : 1 ≤ n) (hn2 : n ≤ 1000) (ha : ∀ x ∈ f, Sm a x) (ha2 : a ≤ 60) (hb : ∀ x ∈ row, Sm b x) (hab : a + b < 900000) :
    ∃ r, m_root_times f row = ok r ∧ r.length = n ∧ Cf f r (0 :: row) ∧ ∀ x ∈ r, Sm (a + b + 2) x := by
  unfold m_root_times
  have e1 : (row.length : Int) - 1 = ((n - 1 : Nat) : Int) := by omega
  have hlast : co row (n - 1) ∈ row := co_mem (by omega)
  rw [e1, pget_co (by omega), bind_ok, cutL_take, pcat_ok (by simp; omega), bind_ok]
  have hlen : ([0] ++ row.take (n - 1)).length = n := by simp; omega
  have hz : (List.zip ([0] ++ row.take (n - 1)) f).length = n := by rw [List.length_zip, hlen]; omega
  have hmap : mapC (fun x5 : Int × Int => (M.bind (pmul (co row (n - 1)) x5.2) fun u6 => ok (x5.1 - u6))) (List.zip ([0] ++ row.take (n - 1)) f) = ok ((List.zip ([0] ++ row.take (n - 1)) f).map fun x => x.1 - co row (n - 1) * x.2) := by
    refine mapC_ok (fun x hx => ?_) (by rw [sizeLineE]; omega)
    have hx2 := ha _ (List.of_mem_zip hx).2
    rw [mul_sm (hb _ hlast) hx2 (by omega), bind_ok]
  rw [hmap]
  refine ⟨_, rfl, by rw [List.length_map, hz], ⟨[-(co row (n - 1))], fun t => ?_⟩, fun x hx => ?_⟩
  · rw [mulP_one_l, zip_map_co (α := Int) _ _ _ n hlen (by omega)]
    by_cases ht : t < n
    · rw [if_pos ht]
      have : co ([0] ++ row.take (n - 1)) t = co (0 :: row) t := by
        cases t with
        | zero => rfl
        | succ t => show co (0 :: row.take (n - 1)) (t + 1) = _; rw [co_succ, co_succ, co_take, if_pos (by omega)]
      dsimp only
      rw [this, Int.neg_mul]; omega
    · rw [if_neg ht]
      by_cases h2 : t = n
      · subst h2
        obtain ⟨m, rfl⟩ : ∃ m, t = m + 1 := ⟨t - 1, by omega⟩
        rw [h1, co_succ, Nat.add_sub_cancel]; omega
      · obtain ⟨m, rfl⟩ : ∃ m, t = m + 1 := ⟨t - 1, by omega⟩
        rw [co_succ, co_out (xs := row) (by omega), co_out (xs := f) (by omega)]; omega
  · obtain ⟨y, hy, rfl⟩ := List.mem_map.mp hx
    obtain ⟨h1, h2⟩ := List.of_mem_zip hy
    have s1 : Sm b y.1 := by
      rcases List.mem_append.mp h1 with z | z
      · have : y.1 = 0 := by simpa using z
        rw [this]; exact Nat.zero_le _
      · exact hb _ (List.mem_of_mem_take z)
    exact (s1.sub ((hb _ hlast).mul (ha _ h2))).mono (by omega)
def shiftP (k : Nat) (y : List Int) : List Int := List.replicate k 0 ++ y
theorem shiftP_succ (k : Nat) (y : List Int) : shiftP (k + 1) y = 0 :: shiftP k y := rfl
theorem poly_table_ok {f y : List Int} {n a b : Nat} (hf : f.length = n + 1) (h1 : co f n = 1) (hy : y.length = n) (hn : 1 ≤ n) (hn2 : n ≤ 1000) (ha : ∀ x ∈ f, Sm a x) (ha2 : a ≤ 60) (hb : ∀ x ∈ y, Sm b x) (hab : b < 700000) :
    ∃ T, m_poly_table f y = ok T ∧ T.length = n ∧ ∀ (k : Nat) r, T[k]? = some r → r.length = n ∧ Cf f r (shiftP k y) ∧ ∀ x ∈ r, Sm (b + k * (a + 2)) x := by
  unfold m_poly_table
  have hB : ∀ i, i ≤ n → b + i * (a + 2) < 800000 := fun i hi => by
    have : i * (a + 2) ≤ 1000 * 62 := Nat.mul_le_mul (by omega) (by omega)
    omega
  have h := Tot.loopMi (f := fun (s5 : (List (List Int)) × (List Int)) k6 => (M.bind (papp s5.1 s5.2) fun rows7 => (M.bind (m_root_times f s5.2) fun row8 => ok (rows7, row8)))) (xs := rangeL 0 n) (c := (([] : List (List Int)), y))
    (fun i (s : List (List Int) × List Int) => s.1.length = i ∧ (∀ (k : Nat) r, s.1[k]? = some r → r.length = n ∧ Cf f r (shiftP k y) ∧ ∀ x ∈ r, Sm (b + k * (a + 2)) x) ∧ s.2.length = n ∧ Cf f s.2 (shiftP i y) ∧ ∀ x ∈ s.2, Sm (b + i * (a + 2)) x)
    ⟨rfl, (fun k r h => by simp at h), hy, Cf.refl _ _, (fun x hx => by rw [Nat.zero_mul]; exact hb x hx)⟩ (fun i s x hx ⟨i1, i2, i3, i4, i5⟩ => by
      have hi := (List.getElem?_eq_some_iff.mp hx).1
      rw [rangeL_len] at hi
      have hBi := hB i (by omega)
      refine .bind (.papp (by omega)) fun q hq => ?_
      obtain ⟨r, e, l, c, m⟩ := root_times_ok hf h1 i3 hn hn2 ha ha2 i5 (by omega)
      rw [e, bind_ok]
      refine .ok ⟨by dsimp only; rw [hq, List.length_append, i1]; rfl, fun k r' hk => ?_, l, c.trans i4.cons0, fun x hx => (m x hx).mono (by rw [Nat.succ_mul]; omega)⟩
      dsimp only at hk
      rw [hq] at hk
      by_cases hki : k < s.1.length
      · rw [List.getElem?_append_left hki] at hk; exact i2 k r' hk
      · rw [List.getElem?_append_right (by omega)] at hk
        have hz : k - s.1.length = 0 := by
          by_cases z : k - s.1.length = 0
          · exact z
          · rw [show k - s.1.length = (k - s.1.length - 1) + 1 by omega] at hk; simp at hk
        rw [hz] at hk
        have : s.2 = r' := by simpa using hk
        rw [← this, show k = i by omega]
        exact ⟨i3, i4, i5⟩)
  obtain ⟨s, e, h1, h2, _⟩ := h
  rw [rangeL_len] at h1
  refine ⟨s.1, ?_, h1, h2⟩
  rw [bind_ok, bind_ok, hy, pr_nat (by omega), bind_ok, e, bind_ok]
/-! ### sums of rows, each taken so often -/
def lin : List Int → List (List Int) → List Int
  | [], _ => []
  | _ :: _, [] => []
  | a :: as, r :: rs => addP (scaleP a r) (lin as rs)
theorem comb_loop {n a b : Nat} (hn : n ≤ 100000) (hab : a + b < 1000000) : ∀ (as : List Int) (rs : List (List Int)) (tot : List Int), (∀ x ∈ as, Sm a x) → (∀ r ∈ rs, r.length = n ∧ ∀ x ∈ r, Sm b x) → tot.length = n →
    ∃ tot', loopM (fun (total6 : (List Int)) (x7 : Int × List Int) => (M.bind (M.bind (prangeI (n : Int)) fun xs => loopM (fun (total8 : (List Int)) k9 => (M.bind (M.bind (M.bind (pget total8 k9) fun u11 => M.bind (M.bind (pget x7.2 k9) fun u10 => (pmul x7.1 u10)) fun u12 => ok (u11 + u12)) fun u14 => (pset total8 k9 u14)) fun total13 => ok (total13))) (total6) xs) fun total15 => ok (total15))) tot (List.zip as rs) = ok tot' ∧ tot'.length = n ∧ ∀ t, co tot' t = co tot t + co (lin as rs) t
  | [], rs, tot, _, _, ht => ⟨tot, rfl, ht, fun t => by show _ = _ + (0 : Int); omega⟩
  | x :: as, [], tot, _, _, ht => ⟨tot, rfl, ht, fun t => by show _ = _ + (0 : Int); omega⟩
  | x :: as, r :: rs, tot, hx, hr, ht => by
    obtain ⟨hr1, hr2⟩ := hr r List.mem_cons_self
    obtain ⟨t1, e1, l1, c1⟩ := addInto (N := n) (i := 0) (n := n) (s := fun j => x * co r j) (step := fun (total8 : (List Int)) k9 => (M.bind (M.bind (M.bind (pget total8 k9) fun u11 => M.bind (M.bind (pget r k9) fun u10 => (pmul x u10)) fun u12 => ok (u11 + u12)) fun u14 => (pset total8 k9 u14)) fun total13 => ok (total13))) (L := tot) ht (by omega) (fun c j hc hj => by
      rw [pget_co (by omega), bind_ok, pget_co (by omega), bind_ok, mul_sm (hx x List.mem_cons_self) (hr2 _ (co_mem (by omega))) hab, bind_ok, bind_ok, pset_nat (by omega), bind_ok, Nat.zero_add])
    obtain ⟨t2, e2, l2, c2⟩ := comb_loop hn hab as rs t1 (fun y hy => hx y (List.mem_cons_of_mem _ hy)) (fun y hy => hr y (List.mem_cons_of_mem _ hy)) l1
    refine ⟨t2, ?_, l2, fun t => ?_⟩
    · rw [List.zip_cons_cons, loopM_cons]
      refine (congrArg (fun m : M (List Int) => m.bind _) (?_ : _ = ok t1)).trans e2
      have pr : prangeI (n : Int) = ok (rangeL 0 n) := pr_nat (by omega)
      rw [pr, bind_ok, e1, bind_ok]
    · rw [c2, c1]
      show _ = _ + co (addP (scaleP x r) (lin as rs)) t
      rw [addP_co, scaleP_co]
      by_cases h : t < n
      · rw [if_pos (by omega), Nat.sub_zero]; omega
      · rw [if_neg (by omega), co_out (xs := r) (by omega)]; omega
theorem combined_ok {as : List Int} {rs : List (List Int)} {n a b : Nat} (hn : n ≤ 100000) (hab : a + b < 1000000) (hne : 0 < rs.length) (hx : ∀ x ∈ as, Sm a x) (hr : ∀ r ∈ rs, r.length = n ∧ ∀ x ∈ r, Sm b x) :
    ∃ z, m_combined as rs = ok z ∧ z.length = n ∧ ∀ t, co z t = co (lin as rs) t := by
  unfold m_combined
  have h0 : pget rs 0 = ok (rs[0]'hne) := pget_nat (i := 0) hne
  have hl0 := (hr _ (List.getElem_mem hne)).1
  rw [h0, bind_ok, bind_ok, hl0, prep0 (by omega), bind_ok, bind_ok, bind_ret]
  obtain ⟨z, e, l, c⟩ := comb_loop hn hab as rs (List.replicate n 0) hx hr (by simp)
  exact ⟨z, e, l, fun t => by rw [c, co_rep0]; omega⟩
theorem addP_sm {k : Nat} {f g : List Int} (hf : ∀ x ∈ f, Sm k x) (hg : ∀ x ∈ g, Sm k x) : ∀ x ∈ addP f g, Sm (k + 1) x := addP_mem hf hg
theorem lin_sm {a b : Nat} : ∀ (as : List Int) (rs : List (List Int)), (∀ x ∈ as, Sm a x) → (∀ r ∈ rs, ∀ x ∈ r, Sm b x) → ∀ x ∈ lin as rs, Sm (a + b + 1 + as.length) x
  | [], _, _, _ => fun x hx => nomatch hx
  | _ :: _, [], _, _ => fun x hx => nomatch hx
  | y :: as, r :: rs, hx, hr => fun x hx' => by
    have h1 : ∀ x ∈ scaleP y r, Sm (a + b + 1 + as.length) x := fun x h => (scaleP_mem (hx y List.mem_cons_self) (hr r List.mem_cons_self) x h).mono (by omega)
    have h2 := lin_sm as rs (fun y hy => hx y (List.mem_cons_of_mem _ hy)) (fun y hy => hr y (List.mem_cons_of_mem _ hy))
    exact (addP_mem h1 h2 x hx').mono (by simp; omega)
theorem co_sm {k : Nat} {f : List Int} (h : ∀ x ∈ f, Sm k x) (t : Nat) : Sm k (co f t) := by
  by_cases ht : t < f.length
  · exact h _ (co_mem ht)
  · rw [co_out (by omega)]; exact Nat.zero_le _
theorem sm_of_co {k : Nat} {f : List Int} (h : ∀ t, Sm k (co f t)) : ∀ x ∈ f, Sm k x := fun x hx => by
  obtain ⟨i, hi⟩ := List.getElem?_of_mem hx
  have := h i
  rw [co_some hi] at this
  exact this
theorem lin_cf {f y : List Int} : ∀ (as : List Int) (rs : List (List Int)) (j : Nat), as.length ≤ rs.length → (∀ (k : Nat) r, rs[k]? = some r → Cf f r (shiftP (j + k) y)) → Cf f (lin as rs) (mulP as (shiftP j y))
  | [], _, _, _, _ => Cf.refl _ _
  | _ :: _, [], _, h, _ => by simp at h
  | x :: as, r :: rs, j, hl, h => by
    have h1 := lin_cf as rs (j + 1) (by simpa using hl) (fun k r' hk => by
      have := h (k + 1) r' (by simpa using hk)
      rw [show j + 1 + k = j + (k + 1) by omega]; exact this)
    have h0 := h 0 r rfl
    refine ((h0.scale x).add h1).trans (.of fun t => ?_)
    show co (addP (scaleP x (shiftP j y)) (mulP as (shiftP (j + 1) y))) t = co (addP (scaleP x (shiftP j y)) (0 :: mulP as (shiftP j y))) t
    rw [addP_co, addP_co, shiftP_succ, mulP_shift_r]
/-- the product of two numbers -/
theorem product_ok {f x y : List Int} {n a b c : Nat} (hf : f.length = n + 1) (h1 : co f n = 1) (hx : x.length = n) (hy : y.length = n) (hn : 1 ≤ n) (hn2 : n ≤ 1000) (ha : ∀ x ∈ f, Sm a x) (ha2 : a ≤ 60) (hb : ∀ z ∈ y, Sm b z) (hc : ∀ z ∈ x, Sm c z) (hbc : b + c < 600000) :
    ∃ z, m_product_by f x y = ok z ∧ z.length = n ∧ Cf f z (mulP x y) ∧ ∀ w ∈ z, Sm (c + (b + n * (a + 2)) + 1 + n) w := by
  unfold m_product_by
  obtain ⟨T, e, l, hT⟩ := poly_table_ok hf h1 hy hn hn2 ha ha2 hb (by omega)
  have hm : n * (a + 2) ≤ 1000 * 62 := Nat.mul_le_mul (by omega) (by omega)
  have hrow : ∀ r ∈ T, r.length = n ∧ ∀ z ∈ r, Sm (b + n * (a + 2)) z := fun r hr => by
    obtain ⟨k, hk⟩ := List.getElem?_of_mem hr
    have hkn := (List.getElem?_eq_some_iff.mp hk).1
    obtain ⟨q1, _, q3⟩ := hT k r hk
    exact ⟨q1, fun z hz => (q3 z hz).mono (by have : k * (a + 2) ≤ n * (a + 2) := Nat.mul_le_mul_right _ (by omega)
                                              omega)⟩
  obtain ⟨z, e2, l2, c2⟩ := combined_ok (as := x) (rs := T) (n := n) (a := c) (b := b + n * (a + 2)) (by omega) (by omega) (by omega) hc hrow
  refine ⟨z, by rw [e, bind_ok, e2], l2, (Cf.of c2).trans ?_, sm_of_co fun t => ?_⟩
  · exact lin_cf x T 0 (by omega) fun k r hk => by rw [Nat.zero_add]; exact (hT k r hk).2.1
  · rw [c2]
    have := co_sm (lin_sm x T hc fun r hr => (hrow r hr).2) t
    rw [hx] at this
    exact this
/-! ### the law's own product -/
theorem sm_lt64 {a : Nat} {x : Int} (h : Sm a x) (ha : a ≤ 60) : x.natAbs < 18446744073709551616 := by
  by_cases hx : x.natAbs = 0
  · omega
  · have h1 : x.natAbs < 2 ^ (x.natAbs.log2 + 1) := (Nat.log2_lt hx).mp (Nat.lt_succ_self _)
    have h2 : 2 ^ (x.natAbs.log2 + 1) ≤ 2 ^ 61 := Nat.pow_le_pow_right (by decide) (by unfold Sm at h; omega)
    have e : (2 : Nat) ^ 61 = 2305843009213693952 := by decide
    omega
theorem addInto2 {N i n : Nat} {step : List Int → Int → M (List Int)} {s : Nat → Int} {L : List Int} (hL : L.length = N) (hi : i + n ≤ N)
    (hs : ∀ (c : List Int) (j : Nat), c.length = N → j < n → (∀ t, t < i ∨ i + n ≤ t → co c t = co L t) → step c (j : Int) = ok (c.set (i + j) (co c (i + j) + s j))) :
    ∃ L', loopM step L (rangeL 0 n) = ok L' ∧ L'.length = N ∧ ∀ t, co L' t = co L t + if i ≤ t ∧ t < i + n then s (t - i) else 0 := by
  obtain ⟨c, e, h1, h2⟩ := loopM_inv (f := step) (fun j (c : List Int) => c.length = N ∧ ∀ t, co c t = co L t + if i ≤ t ∧ t < i + j then s (t - i) else 0) (xs := rangeL 0 n) (c := L)
    ⟨hL, fun t => by rw [if_neg (by omega)]; omega⟩ (fun j c x hx ⟨h1, h2⟩ => by
      obtain ⟨rfl, hj⟩ := range_get hx
      refine ⟨_, hs c j h1 hj (fun t ht => by rw [h2, if_neg (by omega)]; omega), by rw [List.length_set]; exact h1, fun t => ?_⟩
      rw [co_set (by omega)]
      by_cases e : t = i + j
      · subst e
        rw [if_pos rfl, h2, if_neg (by omega), if_pos (by omega), show i + j - i = j by omega]; omega
      · rw [if_neg e, h2]
        have : (i ≤ t ∧ t < i + j) ↔ (i ≤ t ∧ t < i + (j + 1)) := by omega
        simp only [this])
  rw [rangeL_len] at h2
  exact ⟨c, e, h1, h2⟩
theorem rangeD_mem {i j : Int} {k : Nat} {x : Int} (h : (rangeD i (i - j).toNat)[k]? = some x) : x = i - k ∧ j < x := by
  rw [rangeD_get] at h
  by_cases c : k < (i - j).toNat
  · rw [if_pos c] at h
    have := Option.some.inj h
    omega
  · rw [if_neg c] at h; cases h
theorem l_times_ok {f x y : List Int} {n a b c : Nat} (hf : f.length = n + 1) (h1 : co f n = 1) (hx : x.length = n) (hy : y.length = n) (hn : 1 ≤ n) (hn2 : n ≤ 1000) (ha : ∀ x ∈ f, Sm a x) (ha2 : a ≤ 60) (hb : ∀ z ∈ y, Sm b z) (hc : ∀ z ∈ x, Sm c z) (hbc : b + c < 600000) :
    ∃ z, m_l_times f x y = ok z ∧ z.length = n ∧ Cf f z (mulP x y) := by
  subst hx
  show Tot (m_l_times f x y) fun z => z.length = x.length ∧ Cf f z (mulP x y)
  unfold m_l_times
  have e1 : (f.length : Int) - 1 = (x.length : Int) := by omega
  have e2 : 2 * (x.length : Int) - 1 = ((2 * x.length - 1 : Nat) : Int) := by omega
  have pr : prangeI (x.length : Int) = ok (rangeL 0 x.length) := pr_nat (by omega)
  rw [e1, bind_ok, e2, prep0 (show 2 * x.length - 1 ≤ 16777216 by omega), bind_ok]
  refine .bind (P := fun raw : List Int => raw.length = 2 * x.length - 1 ∧ ∀ t, co raw t = co (mulP x y) t) ?_ fun raw hraw => ?_
  · rw [pr, bind_ok]
    refine timesInto (N := 2 * x.length - 1) (f := x) (g := y) (by simp) (by omega) (co_rep0 _) fun cc i hcc hi => ?_
    refine Tot.bind (P := fun c' : List Int => c'.length = 2 * x.length - 1 ∧ ∀ t, co c' t = co cc t + if i ≤ t ∧ t < i + y.length then co x i * co y (t - i) else 0) ?_ fun c' h => .ok h
    rw [bind_ok, hy]
    refine addInto (n := x.length) (s := fun j => co x i * co y j) hcc (by omega) fun d j hd hj => ?_
    have eij : (i : Int) + (j : Int) = ((i + j : Nat) : Int) := by omega
    rw [eij, pget_co (by omega), bind_ok, pget_co (by omega), bind_ok, pget_co (by omega), bind_ok, mul_sm (hc _ (co_mem (by omega))) (hb _ (co_mem (by omega))) (by omega), bind_ok, bind_ok, pset_nat (by omega), bind_ok]
  · obtain ⟨lr, cr⟩ := hraw
    refine .bind (P := fun raw : List Int => raw.length = 2 * x.length - 1 ∧ Cf f (raw.take x.length) (mulP x y)) ?_ fun z hz => ?_
    · rw [prangeD_ok (by omega) (by omega), bind_ok]
      refine (Tot.loopMi (fun i (r : List Int) => r.length = 2 * x.length - 1 ∧ Cf f (r.take (2 * x.length - 1 - i)) (mulP x y)) (c := raw) ⟨lr, .of fun t => ?_⟩ fun i r k hk hr => ?_).mono fun r hr => ⟨hr.1, ?_⟩
      · rw [← cr, co_take]
        by_cases ht : t < 2 * x.length - 1 - 0
        · rw [if_pos ht]
        · rw [if_neg ht, co_out (by omega)]
      · obtain ⟨hk1, hk2⟩ := rangeD_mem hk
        obtain ⟨K, hK⟩ : ∃ K : Nat, k = (K : Int) := ⟨k.toNat, by omega⟩
        subst hK
        have hKi : K = 2 * x.length - 2 - i := by omega
        have hKn : x.length ≤ K := by omega
        refine Tot.bind (P := fun c' : List Int => c'.length = 2 * x.length - 1 ∧ ∀ t, co c' t = co r t + if K - x.length ≤ t ∧ t < K - x.length + x.length then -(co r K * co f (t - (K - x.length))) else 0) ?_ fun c' h => .ok ⟨h.1, ?_⟩
        · rw [pr, bind_ok]
          refine addInto2 (n := x.length) (s := fun j => -(co r K * co f j)) hr.1 (by omega) fun d j hd hj hsame => ?_
          have eij : (K : Int) - (x.length : Int) + (j : Int) = ((K - x.length + j : Nat) : Int) := by omega
          rw [bind_ok, eij, pget_co (by omega), bind_ok, pget_co (by omega), bind_ok, pget_co (by omega), bind_ok, hsame K (by omega), pmul_right (by rw [pow64]; exact sm_lt64 (ha _ (co_mem (by omega))) ha2), bind_ok, bind_ok, pset_nat (by omega), bind_ok]
          congr 2
        · obtain ⟨h2, h3⟩ := h
          refine Cf.trans ⟨List.replicate (K - x.length) 0 ++ [-(co r K)], fun t => ?_⟩ hr.2
          rw [mulP_lead, co_take, co_take, h3]
          have e3 : 2 * x.length - 1 - (i + 1) = K := by omega
          have e4 : 2 * x.length - 1 - i = K + 1 := by omega
          rw [e3, e4]
          by_cases t1 : t < K
          · rw [if_pos t1, if_pos (show t < K + 1 by omega)]
            by_cases t2 : K - x.length ≤ t
            · rw [if_pos (show K - x.length ≤ t ∧ t < K - x.length + x.length by omega), if_pos t2, Int.neg_mul]
            · rw [if_neg (show ¬ (K - x.length ≤ t ∧ t < K - x.length + x.length) by omega), if_neg t2]
          · rw [if_neg t1]
            by_cases t2 : t = K
            · subst t2
              rw [if_pos (show t < t + 1 by omega), if_pos (show t - x.length ≤ t by omega), show t - (t - x.length) = x.length by omega, h1]; omega
            · rw [if_neg (show ¬ t < K + 1 by omega), if_pos (show K - x.length ≤ t by omega), co_out (xs := f) (by omega)]; omega
      · have e5 : 2 * x.length - 1 - (rangeD (2 * (x.length : Int) - 2) (2 * (x.length : Int) - 2 - ((x.length : Int) - 1)).toNat).length = x.length := by
          unfold rangeD
          rw [List.length_map, List.length_range]; omega
        have := hr.2
        rw [e5] at this
        exact this
    · rw [cutL_take]
      exact .ok ⟨by rw [List.length_take]; omega, hz.2⟩
end T

set_option maxRecDepth 100000
set_option maxHeartbeats 1000000
namespace T
open PySem PySem.Spec PyProof.Rows L2
/-! ### drawn numbers of a ring -/
theorem Drawn.below {ws rs : List Int} {B : Int} (h : Drawn ws rs) (hB : ∀ w ∈ ws, w ≤ B) : ∀ x ∈ rs, 0 ≤ x ∧ x < B := fun x hx => by
  obtain ⟨i, hi⟩ := List.getElem?_of_mem hx
  have hil := (List.getElem?_eq_some_iff.mp hi).1
  rw [h.1] at hil
  have := h.2 i _ x (List.getElem?_eq_getElem hil) hi
  have := hB _ (List.getElem_mem hil)
  omega
theorem widths_app {a : List Int} {k : Nat} {w : Int} (ha : a.length ≤ 1000) (hk : k ≤ 1000) (h1 : ∀ x ∈ a, 0 < x ∧ x.natAbs.log2 < 9000) (h2 : 0 < w ∧ w.natAbs.log2 < 9000) : Widths (a ++ List.replicate k w) :=
  ⟨by rw [List.length_append, List.length_replicate]; omega, fun x hx => by
    rcases List.mem_append.mp hx with z | z
    · exact h1 x z
    · rw [List.eq_of_mem_replicate z]; exact h2⟩
theorem prepN {k : Nat} (w : Int) (h : k ≤ 16777216) : prep [w] (k : Int) = ok (List.replicate k w) := prep_ok h
theorem cutL_len {α : Type} (xs : List α) (lo hi : Option Int) : (cutL xs lo hi).length ≤ xs.length := by
  unfold cutL
  rw [List.length_take, List.length_drop]; omega
theorem cutL_mem {α : Type} {xs : List α} {lo hi : Option Int} {x : α} (h : x ∈ cutL xs lo hi) : x ∈ xs := List.mem_of_mem_drop (List.mem_of_mem_take h)
theorem cutL_nat {α : Type} {xs : List α} {i j : Nat} : (cutL xs (some (i : Int)) (some (j : Int))).length ≤ j - i := by
  unfold cutL
  rw [List.length_take, show HT.sIx xs.length 0 (some (i : Int)) = min i xs.length from HT.sIx_nat xs.length 0 i, show HT.sIx xs.length xs.length (some (j : Int)) = min j xs.length from HT.sIx_nat xs.length xs.length j]
  omega
theorem far_loop {xs : List Int} (h : ∀ x ∈ xs, 0 ≤ x ∧ x < 100000000) (hl : xs.length ≤ 13) : Tot (loopM (fun (far13 : Int) part14 => (M.bind (ok ((far13 * 100000000) + part14)) fun far15 => ok (far15))) 0 xs) (Sm 400) := by
  refine (Tot.loopMi (fun i far => Sm (30 * i) far) (Nat.zero_le _) fun i c x hx hc => ?_).mono fun v hv => hv.mono (by omega)
  have h1 := h x (List.mem_of_getElem? hx)
  have s1 : Sm 26 x := Sm.of (A := 100000000) (by omega)
  have s2 : Sm 26 (100000000 : Int) := Sm.of (A := 100000000) (by decide)
  exact .ok (((hc.mul s2).add s1).mono (by omega))
theorem l_number_ok (cell : Int) {n : Nat} {prime : Int} (hn : n ≤ 4) (hp : 0 < prime) : Tot (m_l_number cell (n : Int) prime) fun x => x.length = n ∧ ∀ z ∈ x, Sm 400 z := by
  unfold m_l_number
  obtain ⟨a, ea, da⟩ := draws_ok cell (ws := [5, 5]) (prime := prime) Widths.of hp
  obtain ⟨a0, ra0, _, _⟩ := da.at (i := 0) (w := 5) rfl
  obtain ⟨a1, ra1, _, _⟩ := da.at (i := 1) (w := 5) rfl
  have pa0 : pget a 0 = ok a0 := pget_some (i := 0) ra0
  have pa1 : pget a 1 = ok a1 := pget_some (i := 1) ra1
  have e13 : 13 * (n : Int) = ((13 * n : Nat) : Int) := by omega
  have hw : Widths ([5, 5] ++ List.replicate (13 * n) 100000000) := widths_app (by decide) (by omega) (by decide +kernel) (by decide +kernel)
  obtain ⟨b, eb, db⟩ := draws_ok cell hw hp
  have hb : ∀ x ∈ b, 0 ≤ x ∧ x < 100000000 := db.below fun w hw => by
    rcases List.mem_append.mp hw with z | z
    · have : w = 5 := by simpa using z
      omega
    · rw [List.eq_of_mem_replicate z]; omega
  rw [ea, bind_ok, e13, prepN _ (by omega), bind_ok, pcat_ok (by simp only [List.length_cons, List.length_nil, List.length_replicate]; omega), bind_ok, eb, bind_ok, bind_ok, bind_ok]
  refine .bind (P := fun x : List Int => x.length = n ∧ ∀ z ∈ x, Sm 400 z) ?_ fun x hx => .ok hx
  rw [pr_nat (by omega), bind_ok]
  refine (Tot.loopMi (fun i (x : List Int) => x.length = i ∧ ∀ z ∈ x, Sm 400 z) (c := ([] : List Int)) ⟨rfl, (fun z hz => nomatch hz)⟩ fun i c k hk hc => ?_).mono fun x hx => ⟨by rw [hx.1, rangeL_len], hx.2⟩
  obtain ⟨rfl, hi⟩ := range_get hk
  have ei : 13 * (i : Int) = ((13 * i : Nat) : Int) := by omega
  have ei2 : 13 * (i : Int) + 13 = ((13 * i + 13 : Nat) : Int) := by omega
  simp only [bind_okS, bind_ret, pa0, pa1]
  refine .bind (P := Sm 400) (far_loop (fun x hx => hb x (cutL_mem (cutL_mem hx))) ?_) fun far h0 => ?_
  · rw [ei2, ei]
    exact Nat.le_trans cutL_nat (by omega)
  refine .bind (P := Sm 400) (.ite (fun _ => .ok (Sm.of (A := 10) (by omega) (by decide +kernel))) fun _ => .ok h0) fun far h0 => ?_
  refine .bind (P := Sm 400) (.ite (fun _ => .ok (Sm.of (A := 100) (by omega) (by decide +kernel))) fun _ => .ok h0) fun far h0 => ?_
  refine .bind (P := Sm 400) (.ite (fun _ => .ok (Sm.of (A := 10000) (by omega) (by decide +kernel))) fun _ => .ok h0) fun far h0 => ?_
  refine .bind (P := Sm 400) (.ite (fun _ => ?_) fun _ => .ok h0) fun far h0 => ?_
  · refine .bind (.pmod (by omega)) fun v hv => .ok (Sm.of (A := 1000000000000000000000) (by omega) (by decide +kernel))
  refine .bind (P := Sm 400) (.ite (fun _ => ?_) fun _ => .ok h0) fun far h0 => ?_
  · refine .bind (.pmod (by omega)) fun v hv => .ok (Sm.of (A := 1000000000000000000000000000000000000000000000000000000000000000000000000000000000000000000000000000000000) (by omega) (by decide +kernel))
  refine .bind (P := Sm 400) (.ite (fun _ => .ok (Nat.zero_le _)) fun _ => .ok h0) fun far h0 => ?_
  refine (Tot.papp (by omega)).mono fun q hq => ?_
  rw [hq]
  refine ⟨by rw [List.length_append, hc.1]; rfl, fun z hz => ?_⟩
  rcases List.mem_append.mp hz with y | y
  · exact hc.2 z y
  · have : z = far := by simpa using y
    rw [this]; exact h0
theorem l_few_ok (cell : Int) {n : Nat} {prime : Int} (hn : n ≤ 4) (hp : 0 < prime) : Tot (m_l_few cell (n : Int) prime) fun x => x.length = n ∧ ∀ z ∈ x, Sm 400 z := by
  unfold m_l_few
  have hw : Widths ([3] ++ List.replicate n 201) := widths_app (by decide) (by omega) (by decide +kernel) (by decide +kernel)
  obtain ⟨b, eb, db⟩ := draws_ok cell hw hp
  have hbl : b.length = n + 1 := by rw [db.1, List.length_append, List.length_replicate]; simp only [List.length_cons, List.length_nil]; omega
  obtain ⟨b0, rb0, h0, h1⟩ := db.at (i := 0) (w := 3) rfl
  have pb0 : pget b 0 = ok b0 := pget_some (i := 0) rb0
  rw [prepN _ (by omega), bind_ok, pcat_ok (by simp only [List.length_cons, List.length_nil, List.length_replicate]; omega), bind_ok, eb, bind_ok, pb0, bind_ok]
  have hwide : ∃ w : Int, pget [2, 20, 100] b0 = ok w ∧ 0 < w ∧ w ≤ 100 := by
    have : b0 = 0 ∨ b0 = 1 ∨ b0 = 2 := by omega
    rcases this with rfl | rfl | rfl
    · exact ⟨2, rfl, by decide, by decide⟩
    · exact ⟨20, rfl, by decide, by decide⟩
    · exact ⟨100, rfl, by decide, by decide⟩
  obtain ⟨w, ew, w0, w1⟩ := hwide
  rw [ew, bind_ok]
  have hc : cutL b (some 1) none = b.drop 1 := cutL_from 1 (by omega)
  rw [hc]
  refine (Tot.mapC (P := Sm 400) (fun x _ => .bind (.pmod (by omega)) fun v hv => .ok (Sm.of (A := 1000) (by omega) (by decide +kernel))) (by rw [List.length_drop]; omega)).mono fun x hx => ⟨by rw [hx.1, List.length_drop, hbl]; omega, hx.2⟩
/-! ### rows of whole numbers -/
theorem l_row_ok {x : List Int} {n : Nat} (h : x.length = n) (hn : n ≤ 1000) : m_l_row x (n : Int) = ok true := by
  unfold m_l_row
  rw [bind_ok, if_neg (by decide), bind_okS, h, decide_eq_true rfl, if_neg (by decide), mapC_ok (f := fun place5 => m_whole place5) (g := fun _ => true) (fun y _ => whole_ok y) (by rw [sizeLineE]; omega), bind_ok]
  congr 1
  rw [List.all_eq_true]
  intro y hy
  obtain ⟨_, _, rfl⟩ := List.mem_map.mp hy
  rfl
theorem RgOk.deg' {r : Rg} (h : RgOk r) : ∃ n : Nat, 2 ≤ n ∧ n ≤ 4 ∧ r.2.1 = (n : Int) ∧ r.1.length = n + 1 ∧ co r.1 n = 1 ∧ ∀ x ∈ r.1, Sm 9 x := by
  obtain ⟨g, e, h2, h4, hb⟩ := h.gd
  have hl : r.1.length = g.length + 1 := by rw [e, List.length_append]; rfl
  refine ⟨g.length, h2, h4, by rw [h.deg, hl]; omega, hl, ?_, h.gd.sm⟩
  rw [e, co_append_r (Nat.le_refl _), Nat.sub_self]
  rfl
end T

set_option maxRecDepth 100000
set_option maxHeartbeats 4000000
namespace T
open PySem PySem.Spec PyProof.Rows L2
/-! ### tables of numbers, place by place -/
theorem srx {x : Int} (h : x.natAbs ≤ 499) : ∀ y, pmul y x = ok (y * x) := fun y => pmul_right (by rw [pow64]; omega)
theorem slx {x : Int} (h : x.natAbs ≤ 499) : ∀ y, pmul x y = ok (x * y) := fun y => pmul_left (by rw [pow64]; omega)
theorem rt2 {a b x y : Int} (ha : a.natAbs ≤ 499) (hb : b.natAbs ≤ 499) : m_root_times [a, b, 1] [x, y] = ok [0 - y * a, x - y * b] := by
  unfold m_root_times
  rw [show (([x, y] : List Int).length : Int) - 1 = 1 from rfl, pg1, bind_ok, show pcat [0] (cutL [x, y] none (some 1)) = ok [0, x] from by kernel_rfl, bind_ok]
  refine mapC_ok (xs := List.zip [0, x] [a, b, 1]) (g := fun p => p.1 - y * p.2) (fun p hp => ?_) (by rw [sizeLineE]; simp)
  simp only [List.zip_cons_cons, List.zip_nil_left, List.mem_cons, List.not_mem_nil, or_false] at hp
  rcases hp with rfl | rfl
  · rw [srx ha, bind_ok]
  · rw [srx hb, bind_ok]
theorem rt3 {a b c x y z : Int} (ha : a.natAbs ≤ 499) (hb : b.natAbs ≤ 499) (hc : c.natAbs ≤ 499) : m_root_times [a, b, c, 1] [x, y, z] = ok [0 - z * a, x - z * b, y - z * c] := by
  unfold m_root_times
  rw [show (([x, y, z] : List Int).length : Int) - 1 = 2 from rfl, pg2, bind_ok, show pcat [0] (cutL [x, y, z] none (some 2)) = ok [0, x, y] from by kernel_rfl, bind_ok]
  refine mapC_ok (xs := List.zip [0, x, y] [a, b, c, 1]) (g := fun p => p.1 - z * p.2) (fun p hp => ?_) (by rw [sizeLineE]; simp)
  simp only [List.zip_cons_cons, List.zip_nil_left, List.mem_cons, List.not_mem_nil, or_false] at hp
  rcases hp with rfl | rfl | rfl
  · rw [srx ha, bind_ok]
  · rw [srx hb, bind_ok]
  · rw [srx hc, bind_ok]
theorem rt4 {a b c d x y z w : Int} (ha : a.natAbs ≤ 499) (hb : b.natAbs ≤ 499) (hc : c.natAbs ≤ 499) (hd : d.natAbs ≤ 499) : m_root_times [a, b, c, d, 1] [x, y, z, w] = ok [0 - w * a, x - w * b, y - w * c, z - w * d] := by
  unfold m_root_times
  rw [show (([x, y, z, w] : List Int).length : Int) - 1 = 3 from rfl, pg3, bind_ok, show pcat [0] (cutL [x, y, z, w] none (some 3)) = ok [0, x, y, z] from by kernel_rfl, bind_ok]
  refine mapC_ok (xs := List.zip [0, x, y, z] [a, b, c, d, 1]) (g := fun p => p.1 - w * p.2) (fun p hp => ?_) (by rw [sizeLineE]; simp)
  simp only [List.zip_cons_cons, List.zip_nil_left, List.mem_cons, List.not_mem_nil, or_false] at hp
  rcases hp with rfl | rfl | rfl | rfl
  · rw [srx ha, bind_ok]
  · rw [srx hb, bind_ok]
  · rw [srx hc, bind_ok]
  · rw [srx hd, bind_ok]
theorem papp_small {α : Type} {xs : List α} {x : α} (h : xs.length < 100) : papp xs x = ok (xs ++ [x]) := papp_ok (by omega)
theorem pt2 {a b x y : Int} (ha : a.natAbs ≤ 499) (hb : b.natAbs ≤ 499) : m_poly_table [a, b, 1] [x, y] = ok [[x, y], [0 - y * a, x - y * b]] := by
  unfold m_poly_table
  rw [bind_ok, bind_ok, show (([x, y] : List Int).length : Int) = ((2 : Nat) : Int) from rfl, pr_nat (by decide), show rangeL 0 2 = [0, 1] from rfl]
  simp only [bind_okS, loopM_cons, loopM_nil, rt2 ha hb, papp_small, List.length_nil, List.length_cons, List.nil_append, List.cons_append, Nat.reduceAdd, Nat.reduceLT]
theorem pt3 {a b c x y z : Int} (ha : a.natAbs ≤ 499) (hb : b.natAbs ≤ 499) (hc : c.natAbs ≤ 499) : ∃ p q r s t u : Int, m_poly_table [a, b, c, 1] [x, y, z] = ok [[x, y, z], [p, q, r], [s, t, u]] ∧ p = 0 - z * a ∧ q = x - z * b ∧ r = y - z * c ∧ s = 0 - r * a ∧ t = p - r * b ∧ u = q - r * c := by
  refine ⟨_, _, _, _, _, _, ?_, rfl, rfl, rfl, rfl, rfl, rfl⟩
  unfold m_poly_table
  rw [bind_ok, bind_ok, show (([x, y, z] : List Int).length : Int) = ((3 : Nat) : Int) from rfl, pr_nat (by decide), show rangeL 0 3 = [0, 1, 2] from rfl]
  simp only [bind_okS, loopM_cons, loopM_nil, rt3 ha hb hc, papp_small, List.length_nil, List.length_cons, List.nil_append, List.cons_append, Nat.reduceAdd, Nat.reduceLT]
theorem pt4 {a b c d x y z w : Int} (ha : a.natAbs ≤ 499) (hb : b.natAbs ≤ 499) (hc : c.natAbs ≤ 499) (hd : d.natAbs ≤ 499) : ∃ p q r s t u v k l m n o : Int, m_poly_table [a, b, c, d, 1] [x, y, z, w] = ok [[x, y, z, w], [p, q, r, s], [t, u, v, k], [l, m, n, o]] ∧
    (p = 0 - w * a ∧ q = x - w * b ∧ r = y - w * c ∧ s = z - w * d) ∧ (t = 0 - s * a ∧ u = p - s * b ∧ v = q - s * c ∧ k = r - s * d) ∧ l = 0 - k * a ∧ m = t - k * b ∧ n = u - k * c ∧ o = v - k * d := by
  refine ⟨_, _, _, _, _, _, _, _, _, _, _, _, ?_, ⟨rfl, rfl, rfl, rfl⟩, ⟨rfl, rfl, rfl, rfl⟩, rfl, rfl, rfl, rfl⟩
  unfold m_poly_table
  rw [bind_ok, bind_ok, show (([x, y, z, w] : List Int).length : Int) = ((4 : Nat) : Int) from rfl, pr_nat (by decide), show rangeL 0 4 = [0, 1, 2, 3] from rfl]
  simp only [bind_okS, loopM_cons, loopM_nil, rt4 ha hb hc hd, papp_small, List.length_nil, List.length_cons, List.nil_append, List.cons_append, Nat.reduceAdd, Nat.reduceLT]
theorem tab_sm {f y : List Int} {U : List (List Int)} {n b : Nat} (hf : f.length = n + 1) (h1 : co f n = 1) (hy : y.length = n) (hn : 1 ≤ n) (hn2 : n ≤ 4) (ha : ∀ x ∈ f, Sm 9 x) (hb : ∀ x ∈ y, Sm b x) (hab : b ≤ 900) (e : m_poly_table f y = ok U) : ∀ r ∈ U, ∀ x ∈ r, Sm (b + 50) x := fun r hr x hx => by
  obtain ⟨V, e2, _, h⟩ := poly_table_ok hf h1 hy hn (by omega) ha (by decide) hb (by omega)
  rw [e] at e2
  have hUV : U = V := by cases e2; rfl
  subst hUV
  obtain ⟨k, hk⟩ := List.getElem?_of_mem hr
  have hkn := (List.getElem?_eq_some_iff.mp hk).1
  have hl : U.length = n := by assumption
  refine ((h k r hk).2.2 x hx).mono ?_
  have : k * (9 + 2) ≤ 4 * 11 := Nat.mul_le_mul (by omega) (by omega)
  omega
/-- the norm, as det tells it, of degree 2 -/
def nd2 (a b c d : Int) : Int := (0 + a * (d)) + -(c * (b))
def nd3 (a b c d e f g h i : Int) : Int := ((0 + a * (((0 + e * (i)) + -(h * (f))))) + -(d * (((0 + b * (i)) + -(h * (c)))))) + g * (((0 + b * (f)) + -(e * (c))))
end T

set_option maxRecDepth 100000
set_option maxHeartbeats 4000000
namespace T
open PySem PySem.Spec PyProof.Rows L2
/-! ### determinants of any size, by the first column -/
theorem foldl_sm {f : Int → Nat → Int} {k : Nat} (hf : ∀ (tot : Int) (i : Nat) (m : Nat), Sm m tot → k ≤ m → Sm (m + 1) (f tot i)) : ∀ (l : List Nat) (tot : Int) (m : Nat), Sm m tot → k ≤ m → Sm (m + l.length) (l.foldl f tot)
  | [], tot, m, h, _ => h
  | i :: l, tot, m, h, hk => by
    have := foldl_sm hf l (f tot i) (m + 1) (hf tot i m h hk) (by omega)
    exact this.mono (by simp; omega)
theorem loop_range {f : Int → Int → M Int} {g : Int → Nat → Int} {n : Nat} {c : Int} (h : ∀ (c : Int) (i : Nat), i < n → f c (i : Int) = ok (g c i)) : loopM f c (rangeL 0 n) = ok ((List.range n).foldl g c) := by
  have e : rangeL 0 n = (List.range n).map fun i : Nat => (i : Int) := by
    unfold rangeL
    apply List.map_congr_left
    intro i _
    omega
  have key : ∀ (l : List Nat) (c : Int), (∀ i ∈ l, i < n) → loopM f c (l.map fun i : Nat => (i : Int)) = ok (l.foldl g c) := by
    intro l
    induction l with
    | nil => exact fun c _ => rfl
    | cons i l ih =>
      intro c hl
      rw [List.map_cons, loopM_cons, h c i (hl i List.mem_cons_self), bind_ok, ih (g c i) (fun j hj => hl j (List.mem_cons_of_mem _ hj))]
      rfl
  rw [e]
  exact key _ c (fun i hi => List.mem_range.mp hi)
/-- a square table of small places -/
def Sq (b m : Nat) (t : List (List Int)) : Prop := t.length = m ∧ ∀ r ∈ t, r.length = m ∧ ∀ x ∈ r, Sm b x
theorem getD_mem {t : List (List Int)} {i : Nat} (h : i < t.length) : t.getD i [] ∈ t := by
  rw [List.getD_eq_getElem?_getD, List.getElem?_eq_getElem h]
  exact List.getElem_mem h
theorem drop1_len (r : List Int) : (List.drop 1 r).length = r.length - 1 := List.length_drop ..
def minorZ (t : List (List Int)) (i : Nat) : List (List Int) := (t.take i ++ t.drop (i + 1)).map (List.drop 1)
theorem Sq.minor {b m : Nat} {t : List (List Int)} (h : Sq b (m + 1) t) {i : Nat} (hi : i < m + 1) : Sq b m (minorZ t i) := by
  obtain ⟨h1, h2⟩ := h
  refine ⟨by rw [minorZ, List.length_map, List.length_append, List.length_take, List.length_drop]; omega, fun r hr => ?_⟩
  obtain ⟨s, hs, rfl⟩ := List.mem_map.mp hr
  have hst : s ∈ t := by
    rcases List.mem_append.mp hs with z | z
    · exact List.mem_of_mem_take z
    · exact List.mem_of_mem_drop z
  obtain ⟨q1, q2⟩ := h2 s hst
  exact ⟨by rw [drop1_len]; omega, fun x hx => q2 x (List.mem_of_mem_drop hx)⟩
theorem Sq.mono {b c m : Nat} {t : List (List Int)} (h : Sq b m t) (hbc : b ≤ c) : Sq c m t := ⟨h.1, fun r hr => ⟨(h.2 r hr).1, fun x hx => ((h.2 r hr).2 x hx).mono hbc⟩⟩
theorem cut_from (xs : List (List Int)) (i : Nat) (h : i ≤ xs.length) : cutL xs (some (i : Int)) none = xs.drop i := cutL_from i h
theorem minor_ok {b m : Nat} {t : List (List Int)} (hq : Sq b (m + 1) t) {i : Nat} (hi : i < m + 1) (hm : m ≤ 1000) : (M.bind (pcat (cutL t none (some (i : Int))) (cutL t (some ((i : Int) + 1)) none)) fun xs => mapC (fun row11 : List Int => (ok (cutL row11 (some 1) none) : M (List Int))) xs) = ok (minorZ t i) := by
  obtain ⟨q1, q2⟩ := id hq
  have ei : ((i : Int) + 1) = ((i + 1 : Nat) : Int) := by omega
  rw [cutL_take, ei, cut_from t (i + 1) (by omega), pcat_ok (by rw [List.length_take, List.length_drop]; omega), bind_ok]
  exact mapC_ok (fun r hr => by
    have hrt : r ∈ t := by
      rcases List.mem_append.mp hr with z | z
      · exact List.mem_of_mem_take z
      · exact List.mem_of_mem_drop z
    congr 1
    exact cutL_from 1 (by have := (q2 r hrt).1; omega)) (by rw [sizeLineE, List.length_append, List.length_take, List.length_drop]; omega)
def dz : Nat → List (List Int) → Int
  | 0, _ => 0
  | n + 1, t => if t.length = 1 then co (t.headD []) 0 else (List.range t.length).foldl (fun tot i => tot + (if i % 2 = 1 then -(co (t.getD i []) 0 * dz n (minorZ t i)) else co (t.getD i []) 0 * dz n (minorZ t i))) 0
theorem dz_sm {b : Nat} : ∀ (n m : Nat) (t : List (List Int)), 1 ≤ m → m ≤ n → m ≤ 10 → Sq b m t → Sm (m * (b + 20)) (dz n t)
  | 0, m, t, h1, h2, _, _ => absurd (Nat.le_trans h1 h2) (by decide)
  | n + 1, m, t, h1, h2, h10, hq => by
    obtain ⟨q1, q2⟩ := id hq
    unfold dz
    rw [q1]
    by_cases hm : m = 1
    · subst hm
      rw [if_pos rfl]
      match t, q1, q2 with
      | [r], _, q2 =>
        obtain ⟨r1, r2⟩ := q2 r (by simp)
        exact (r2 _ (co_mem (by omega))).mono (by omega)
    · rw [if_neg hm]
      obtain ⟨k, rfl⟩ : ∃ k, m = k + 1 := ⟨m - 1, by omega⟩
      have := foldl_sm (k := k * (b + 20) + b + 2) (f := fun tot i => tot + (if i % 2 = 1 then -(co (t.getD i []) 0 * dz n (minorZ t i)) else co (t.getD i []) 0 * dz n (minorZ t i))) (fun tot i mm h hk => by
        by_cases hi : i < k + 1
        · have s := dz_sm n k _ (by omega) (by omega) (by omega) (hq.minor hi)
          have hr := q2 _ (getD_mem (t := t) (i := i) (by omega))
          have p := (hr.2 _ (co_mem (show 0 < (t.getD i []).length by omega))).mul s
          by_cases h2 : i % 2 = 1
          · rw [if_pos h2]; exact (h.add p.neg).mono (by omega)
          · rw [if_neg h2]; exact (h.add p).mono (by omega)
        · have hz : co (t.getD i []) 0 = 0 := by
            rw [List.getD_eq_getElem?_getD, List.getElem?_eq_none (by omega)]; rfl
          rw [hz, Int.zero_mul]
          have z : Sm (mm + 1) tot := h.mono (by omega)
          split <;> simpa using z) (List.range (k + 1)) 0 (k * (b + 20) + b + 2) (Nat.zero_le _) (Nat.le_refl _)
      refine this.mono ?_
      rw [List.length_range, Nat.succ_mul]
      omega
/-- the sum of the minors, each times its place -/
theorem dz_fuel : ∀ (n m : Nat) (b : Nat) (t : List (List Int)), 1 ≤ m → m ≤ n → Sq b m t → dz n t = dz m t
  | 0, m, _, t, h1, h2, _ => absurd (Nat.le_trans h1 h2) (by decide)
  | n + 1, m, b, t, h1, h2, hq => by
    obtain ⟨k, rfl⟩ : ∃ k, m = k + 1 := ⟨m - 1, by omega⟩
    unfold dz
    by_cases h : t.length = 1
    · rw [if_pos h, if_pos h]
    · rw [if_neg h, if_neg h]
      have hk : 1 ≤ k := by have := hq.1; omega
      have key : ∀ (l : List Nat) (c : Int), (∀ i ∈ l, i < t.length) → l.foldl (fun tot i => tot + (if i % 2 = 1 then -(co (t.getD i []) 0 * dz n (minorZ t i)) else co (t.getD i []) 0 * dz n (minorZ t i))) c = l.foldl (fun tot i => tot + (if i % 2 = 1 then -(co (t.getD i []) 0 * dz k (minorZ t i)) else co (t.getD i []) 0 * dz k (minorZ t i))) c := by
        intro l
        induction l with
        | nil => exact fun _ _ => rfl
        | cons i l ih =>
          intro c hl
          have e : dz n (minorZ t i) = dz k (minorZ t i) := dz_fuel n k b _ hk (by omega) (hq.minor (by have := hl i List.mem_cons_self; have := hq.1; omega))
          rw [List.foldl_cons, List.foldl_cons, e]
          exact ih _ fun j hj => hl j (List.mem_cons_of_mem _ hj)
      exact key _ 0 fun i hi => List.mem_range.mp hi
theorem pget_getD {t : List (List Int)} {i : Nat} (h : i < t.length) : pget t (i : Int) = ok (t.getD i []) := by
  rw [pget_nat h, List.getD_eq_getElem?_getD, List.getElem?_eq_getElem h]
  rfl
theorem detL_ok {b : Nat} : ∀ (n m : Nat) (t : List (List Int)), 1 ≤ m → m ≤ n → m ≤ 10 → b ≤ 10000 → Sq b m t → m_det_L n t = ok (dz n t)
  | 0, m, t, h1, h2, _, _, _ => absurd (Nat.le_trans h1 h2) (by decide)
  | n + 1, m, t, h1, h2, h10, hb, hq => by
    obtain ⟨q1, q2⟩ := id hq
    unfold m_det_L dz
    rw [q1, bind_ok]
    by_cases hm : m = 1
    · subst hm
      rw [if_pos (show decide (((1 : Nat) : Int) = 1) = true by decide), if_pos rfl]
      match t, q1, q2 with
      | [r], _, q2 =>
        obtain ⟨r1, r2⟩ := q2 r (by simp)
        rw [pg0, bind_ok, show pget r 0 = ok (co r 0) from pget_co (t := 0) (by omega)]
        rfl
    · rw [if_neg (by simp; omega), if_neg hm, bind_ok, pr_nat (by omega), bind_ok, bind_ret]
      obtain ⟨k, rfl⟩ : ∃ k, m = k + 1 := ⟨m - 1, by omega⟩
      refine loop_range fun c i hi => ?_
      have hmin := hq.minor hi
      have hkb : k * (b + 20) ≤ 10 * 10020 := Nat.mul_le_mul (by omega) (by omega)
      have e := detL_ok n k _ (by omega) (by omega) (by omega) hb hmin
      have s := dz_sm n k _ (by omega) (by omega) (by omega) hmin
      have hr := q2 _ (getD_mem (t := t) (i := i) (by omega))
      have hx : (M.bind (pget t (i : Int)) fun u => pget u 0) = ok (co (t.getD i []) 0) := by
        rw [pget_getD (by omega), bind_ok]
        exact pget_co (t := 0) (by omega)
      rw [hx, bind_ok, bind_ok]
      by_cases h0 : co (t.getD i []) 0 = 0
      · rw [h0, if_neg (by simp), Int.zero_mul]
        congr 1
        split <;> omega
      · rw [if_pos (by simpa using h0), minor_ok hq hi (by omega), bind_ok, bind_ok, e, bind_ok, mul_sm (hr.2 _ (co_mem (by omega))) s (by omega), bind_ok, bind_ok]
        by_cases h1 : i % 2 = 1
        · rw [if_pos (show decide ((i : Int) % 2 = 1) = true from decide_eq_true (by omega)), if_pos h1]; rfl
        · rw [if_neg (show ¬ decide ((i : Int) % 2 = 1) = true by simp; omega), if_neg h1]; rfl
theorem det_detL (t : List (List Int)) : m_det t = m_det_L 6 t := by
  unfold m_det
  rw [m_det_L]
theorem det_dz {b m : Nat} {t : List (List Int)} (h1 : 1 ≤ m) (h2 : m ≤ 6) (hb : b ≤ 10000) (hq : Sq b m t) : m_det t = ok (dz m t) := by
  rw [det_detL, detL_ok 6 m t h1 h2 (by omega) hb hq, dz_fuel 6 m b t h1 h2 hq]
/-! ### the law's own determinant -/
noncomputable def m_l_det : Nat → (List (List Int)) →  M Int
  | 0, _ => stuck
  | n + 1, rows1 =>
  (M.bind (ok (decide ((List.length rows1 : Int) = 1))) fun z2 => if z2 = true then (M.bind (pget rows1 0) fun u3 => (pget u3 0)) else (M.bind (ok 0) fun total4 => (M.bind (M.bind (prangeI (List.length rows1 : Int)) fun xs => loopM (fun (total5 : Int) i6 => (M.bind (M.bind (pcat (cutL rows1 none (some i6)) (cutL rows1 (some (i6 + 1)) none)) fun xs => mapC (fun row_here8 => (ok (cutL row_here8 (some 1) none))) xs) fun minor7 => (M.bind (M.bind (M.bind (M.bind (M.bind (pget rows1 i6) fun u10 => (pget u10 0)) fun u11 => (pmul (1 - (2 * (i6 % 2))) u11)) fun u12 => M.bind (m_l_det n minor7) fun u13 => (pmul u12 u13)) fun u14 => ok (total5 + u14)) fun total9 => ok (total9)))) (total4) xs) fun total15 => (ok total15))))
theorem l_det_ok {b : Nat} : ∀ (n m : Nat) (t : List (List Int)), 1 ≤ m → m ≤ n → m ≤ 10 → b ≤ 10000 → Sq b m t → m_l_det n t = ok (dz n t)
  | 0, m, t, h1, h2, _, _, _ => absurd (Nat.le_trans h1 h2) (by decide)
  | n + 1, m, t, h1, h2, h10, hb, hq => by
    obtain ⟨q1, q2⟩ := id hq
    unfold m_l_det dz
    rw [q1, bind_ok]
    by_cases hm : m = 1
    · subst hm
      rw [if_pos (show decide (((1 : Nat) : Int) = 1) = true by decide), if_pos rfl]
      match t, q1, q2 with
      | [r], _, q2 =>
        obtain ⟨r1, r2⟩ := q2 r (by simp)
        rw [pg0, bind_ok, show pget r 0 = ok (co r 0) from pget_co (t := 0) (by omega)]
        rfl
    · rw [if_neg (by simp; omega), if_neg hm, bind_ok, pr_nat (by omega), bind_ok, bind_ret]
      obtain ⟨k, rfl⟩ : ∃ k, m = k + 1 := ⟨m - 1, by omega⟩
      refine loop_range fun c i hi => ?_
      have hmin := hq.minor hi
      have hkb : k * (b + 20) ≤ 10 * 10020 := Nat.mul_le_mul (by omega) (by omega)
      have e := l_det_ok n k _ (by omega) (by omega) (by omega) hb hmin
      have s := dz_sm n k _ (by omega) (by omega) (by omega) hmin
      have hr := q2 _ (getD_mem (t := t) (i := i) (by omega))
      have hx : (M.bind (pget t (i : Int)) fun u => pget u 0) = ok (co (t.getD i []) 0) := by
        rw [pget_getD (by omega), bind_ok]
        exact pget_co (t := 0) (by omega)
      have hx1 := hr.2 _ (co_mem (show 0 < (t.getD i []).length by omega))
      rw [minor_ok hq hi (by omega), bind_ok, hx, bind_ok]
      have hsg : Sm 1 (1 - 2 * ((i : Int) % 2)) := Sm.of (A := 1) (by omega) (by decide)
      rw [mul_sm hsg hx1 (by omega), bind_ok, e, bind_ok, mul_sm (hsg.mul hx1) s (by omega), bind_ok, bind_ok]
      congr 2
      by_cases h1 : i % 2 = 1
      · rw [if_pos h1, show (i : Int) % 2 = 1 by omega]; grind
      · rw [if_neg h1, show (i : Int) % 2 = 0 by omega]; grind
theorem l_det_dz {b m n : Nat} {t : List (List Int)} (h1 : 1 ≤ m) (h2 : m ≤ n) (h3 : m ≤ 10) (hb : b ≤ 10000) (hq : Sq b m t) : m_l_det n t = ok (dz m t) := by
  rw [l_det_ok n m t h1 h2 h3 hb hq, dz_fuel n m b t h1 h2 hq]
/-! ### determinants of two, three and four rows, place by place -/
def D2 (r s : Nat → Int) : Int := r 0 * s 1 - s 0 * r 1
def D3 (r s u : Nat → Int) : Int := r 0 * (s 1 * u 2 - u 1 * s 2) - s 0 * (r 1 * u 2 - u 1 * r 2) + u 0 * (r 1 * s 2 - s 1 * r 2)
def D4 (r s u v : Nat → Int) : Int := r 0 * (s 1 * (u 2 * v 3 - v 2 * u 3) - u 1 * (s 2 * v 3 - v 2 * s 3) + v 1 * (s 2 * u 3 - u 2 * s 3)) - s 0 * (r 1 * (u 2 * v 3 - v 2 * u 3) - u 1 * (r 2 * v 3 - v 2 * r 3) + v 1 * (r 2 * u 3 - u 2 * r 3)) + u 0 * (r 1 * (s 2 * v 3 - v 2 * s 3) - s 1 * (r 2 * v 3 - v 2 * r 3) + v 1 * (r 2 * s 3 - s 2 * r 3)) - v 0 * (r 1 * (s 2 * u 3 - u 2 * s 3) - s 1 * (r 2 * u 3 - u 2 * r 3) + u 1 * (r 2 * s 3 - s 2 * r 3))
theorem co_drop1 (r : List Int) (t : Nat) : co (List.drop 1 r) t = co r (t + 1) := by
  match r with
  | [] => rfl
  | _ :: _ => rfl
theorem co_dropN : ∀ (k : Nat) (r : List Int) (t : Nat), co (List.drop k r) t = co r (t + k)
  | 0, r, t => rfl
  | k + 1, [], t => by rw [List.drop_nil]; rfl
  | k + 1, x :: r, t => by rw [List.drop_succ_cons, co_dropN k r t]; rfl
theorem dz2 (r s : List Int) : dz 2 [r, s] = D2 (co r) (co s) := by
  simp [dz, minorZ, List.range_succ, co_dropN, D2, -List.drop_one]
  grind
theorem dz3 (r s u : List Int) : dz 3 [r, s, u] = D3 (co r) (co s) (co u) := by
  simp [dz, minorZ, List.range_succ, co_dropN, D3, -List.drop_one]
  grind
theorem dz4 (r s u v : List Int) : dz 4 [r, s, u, v] = D4 (co r) (co s) (co u) (co v) := by
  simp [dz, minorZ, List.range_succ, co_dropN, D4, -List.drop_one]
  grind
end T

set_option maxRecDepth 100000
set_option maxHeartbeats 4000000
namespace T
open PySem PySem.Spec PyProof.Rows L2
/-! ### the determinant of a product -/
def L2c (a b : Int) (p q : Nat → Int) : Nat → Int := fun t => a * p t + b * q t
def L3c (a b c : Int) (p q x : Nat → Int) : Nat → Int := fun t => a * p t + b * q t + c * x t
def L4c (a b c d : Int) (p q x y : Nat → Int) : Nat → Int := fun t => a * p t + b * q t + c * x t + d * y t
theorem D2_mul (a b c d : Int) (p q : Nat → Int) : D2 (L2c a b p q) (L2c c d p q) = (a * d - c * b) * D2 p q := by
  unfold D2 L2c; grind

theorem D3_lin0 (a b c : Int) (p q x s u : Nat → Int) : D3 (L3c a b c p q x) s u = a * D3 p s u + b * D3 q s u + c * D3 x s u := by
  unfold D3 L3c; grind
theorem D3_lin1 (a b c : Int) (p q x r u : Nat → Int) : D3 r (L3c a b c p q x) u = a * D3 r p u + b * D3 r q u + c * D3 r x u := by
  unfold D3 L3c; grind
theorem D3_lin2 (a b c : Int) (p q x r s : Nat → Int) : D3 r s (L3c a b c p q x) = a * D3 r s p + b * D3 r s q + c * D3 r s x := by
  unfold D3 L3c; grind
theorem D3_same01 (r u : Nat → Int) : D3 r r u = 0 := by
  unfold D3; grind
theorem D3_same02 (r s : Nat → Int) : D3 r s r = 0 := by
  unfold D3; grind
theorem D3_same12 (r s : Nat → Int) : D3 r s s = 0 := by
  unfold D3; grind
theorem D3_p021 (r s u : Nat → Int) : D3 r u s = -D3 r s u := by
  unfold D3; grind
theorem D3_p102 (r s u : Nat → Int) : D3 s r u = -D3 r s u := by
  unfold D3; grind
theorem D3_p120 (r s u : Nat → Int) : D3 s u r = D3 r s u := by
  unfold D3; grind
theorem D3_p201 (r s u : Nat → Int) : D3 u r s = D3 r s u := by
  unfold D3; grind
theorem D3_p210 (r s u : Nat → Int) : D3 u s r = -D3 r s u := by
  unfold D3; grind
theorem D3_mul (a0 a1 a2 b0 b1 b2 c0 c1 c2 : Int) (p q x : Nat → Int) : D3 (L3c a0 a1 a2 p q x) (L3c b0 b1 b2 p q x) (L3c c0 c1 c2 p q x) = D3 (co [a0, a1, a2]) (co [b0, b1, b2]) (co [c0, c1, c2]) * D3 p q x := by
  simp only [D3_lin0, D3_lin1, D3_lin2, D3_same01, D3_same02, D3_same12, D3_p021 p q x, D3_p102 p q x, D3_p120 p q x, D3_p201 p q x, D3_p210 p q x, Int.mul_zero, Int.add_zero, Int.zero_add]
  generalize D3 p q x = z
  simp only [D3, co]
  grind
theorem D4_lin0 (a b c d : Int) (p q x y s u v : Nat → Int) : D4 (L4c a b c d p q x y) s u v = a * D4 p s u v + b * D4 q s u v + c * D4 x s u v + d * D4 y s u v := by
  unfold D4 L4c; grind
theorem D4_lin1 (a b c d : Int) (p q x y r u v : Nat → Int) : D4 r (L4c a b c d p q x y) u v = a * D4 r p u v + b * D4 r q u v + c * D4 r x u v + d * D4 r y u v := by
  unfold D4 L4c; grind
theorem D4_lin2 (a b c d : Int) (p q x y r s v : Nat → Int) : D4 r s (L4c a b c d p q x y) v = a * D4 r s p v + b * D4 r s q v + c * D4 r s x v + d * D4 r s y v := by
  unfold D4 L4c; grind
theorem D4_lin3 (a b c d : Int) (p q x y r s u : Nat → Int) : D4 r s u (L4c a b c d p q x y) = a * D4 r s u p + b * D4 r s u q + c * D4 r s u x + d * D4 r s u y := by
  unfold D4 L4c; grind
theorem D4_same01 (r u v : Nat → Int) : D4 r r u v = 0 := by
  unfold D4; grind
theorem D4_same02 (r s v : Nat → Int) : D4 r s r v = 0 := by
  unfold D4; grind
theorem D4_same03 (r s u : Nat → Int) : D4 r s u r = 0 := by
  unfold D4; grind
theorem D4_same12 (r s v : Nat → Int) : D4 r s s v = 0 := by
  unfold D4; grind
theorem D4_same13 (r s u : Nat → Int) : D4 r s u s = 0 := by
  unfold D4; grind
theorem D4_same23 (r s u : Nat → Int) : D4 r s u u = 0 := by
  unfold D4; grind
theorem D4_p0132 (r s u v : Nat → Int) : D4 r s v u = -D4 r s u v := by
  unfold D4; grind
theorem D4_p0213 (r s u v : Nat → Int) : D4 r u s v = -D4 r s u v := by
  unfold D4; grind
theorem D4_p0231 (r s u v : Nat → Int) : D4 r u v s = D4 r s u v := by
  unfold D4; grind
theorem D4_p0312 (r s u v : Nat → Int) : D4 r v s u = D4 r s u v := by
  unfold D4; grind
theorem D4_p0321 (r s u v : Nat → Int) : D4 r v u s = -D4 r s u v := by
  unfold D4; grind
theorem D4_p1023 (r s u v : Nat → Int) : D4 s r u v = -D4 r s u v := by
  unfold D4; grind
theorem D4_p1032 (r s u v : Nat → Int) : D4 s r v u = D4 r s u v := by
  unfold D4; grind
theorem D4_p1203 (r s u v : Nat → Int) : D4 s u r v = D4 r s u v := by
  unfold D4; grind
theorem D4_p1230 (r s u v : Nat → Int) : D4 s u v r = -D4 r s u v := by
  unfold D4; grind
theorem D4_p1302 (r s u v : Nat → Int) : D4 s v r u = -D4 r s u v := by
  unfold D4; grind
theorem D4_p1320 (r s u v : Nat → Int) : D4 s v u r = D4 r s u v := by
  unfold D4; grind
theorem D4_p2013 (r s u v : Nat → Int) : D4 u r s v = D4 r s u v := by
  unfold D4; grind
theorem D4_p2031 (r s u v : Nat → Int) : D4 u r v s = -D4 r s u v := by
  unfold D4; grind
theorem D4_p2103 (r s u v : Nat → Int) : D4 u s r v = -D4 r s u v := by
  unfold D4; grind
theorem D4_p2130 (r s u v : Nat → Int) : D4 u s v r = D4 r s u v := by
  unfold D4; grind
theorem D4_p2301 (r s u v : Nat → Int) : D4 u v r s = D4 r s u v := by
  unfold D4; grind
theorem D4_p2310 (r s u v : Nat → Int) : D4 u v s r = -D4 r s u v := by
  unfold D4; grind
theorem D4_p3012 (r s u v : Nat → Int) : D4 v r s u = -D4 r s u v := by
  unfold D4; grind
theorem D4_p3021 (r s u v : Nat → Int) : D4 v r u s = D4 r s u v := by
  unfold D4; grind
theorem D4_p3102 (r s u v : Nat → Int) : D4 v s r u = D4 r s u v := by
  unfold D4; grind
theorem D4_p3120 (r s u v : Nat → Int) : D4 v s u r = -D4 r s u v := by
  unfold D4; grind
theorem D4_p3201 (r s u v : Nat → Int) : D4 v u r s = -D4 r s u v := by
  unfold D4; grind
theorem D4_p3210 (r s u v : Nat → Int) : D4 v u s r = D4 r s u v := by
  unfold D4; grind
theorem D4_mul (a0 a1 a2 a3 b0 b1 b2 b3 c0 c1 c2 c3 d0 d1 d2 d3 : Int) (p q x y : Nat → Int) : D4 (L4c a0 a1 a2 a3 p q x y) (L4c b0 b1 b2 b3 p q x y) (L4c c0 c1 c2 c3 p q x y) (L4c d0 d1 d2 d3 p q x y) = D4 (co [a0, a1, a2, a3]) (co [b0, b1, b2, b3]) (co [c0, c1, c2, c3]) (co [d0, d1, d2, d3]) * D4 p q x y := by
  simp only [D4_lin0, D4_lin1, D4_lin2, D4_lin3, D4_same01, D4_same02, D4_same03, D4_same12, D4_same13, D4_same23, D4_p0132 p q x y, D4_p0213 p q x y, D4_p0231 p q x y, D4_p0312 p q x y, D4_p0321 p q x y, D4_p1023 p q x y, D4_p1032 p q x y, D4_p1203 p q x y, D4_p1230 p q x y, D4_p1302 p q x y, D4_p1320 p q x y, D4_p2013 p q x y, D4_p2031 p q x y, D4_p2103 p q x y, D4_p2130 p q x y, D4_p2301 p q x y, D4_p2310 p q x y, D4_p3012 p q x y, D4_p3021 p q x y, D4_p3102 p q x y, D4_p3120 p q x y, D4_p3201 p q x y, D4_p3210 p q x y, Int.mul_zero, Int.add_zero, Int.zero_add]
  generalize D4 p q x y = z
  simp only [D4, co]
  grind
theorem lin2_co (a b : Int) (p q : List Int) (t : Nat) : co (lin [a, b] [p, q]) t = L2c a b (co p) (co q) t := by
  simp only [lin, addP_co, scaleP_co, L2c]
  show _ + (_ + (0 : Int)) = _
  omega
theorem lin3_co (a b c : Int) (p q x : List Int) (t : Nat) : co (lin [a, b, c] [p, q, x]) t = L3c a b c (co p) (co q) (co x) t := by
  simp only [lin, addP_co, scaleP_co, L3c]
  show _ + (_ + (_ + (0 : Int))) = _
  omega
theorem lin4_co (a b c d : Int) (p q x y : List Int) (t : Nat) : co (lin [a, b, c, d] [p, q, x, y]) t = L4c a b c d (co p) (co q) (co x) (co y) t := by
  simp only [lin, addP_co, scaleP_co, L4c]
  show _ + (_ + (_ + (_ + (0 : Int)))) = _
  omega
theorem len2 {α : Type} {xs : List α} (h : xs.length = 2) : ∃ a b, xs = [a, b] := by
  match xs, h with | [a, b], _ => exact ⟨a, b, rfl⟩
theorem len3 {α : Type} {xs : List α} (h : xs.length = 3) : ∃ a b c, xs = [a, b, c] := by
  match xs, h with | [a, b, c], _ => exact ⟨a, b, c, rfl⟩
theorem len4 {α : Type} {xs : List α} (h : xs.length = 4) : ∃ a b c d, xs = [a, b, c, d] := by
  match xs, h with | [a, b, c, d], _ => exact ⟨a, b, c, d, rfl⟩
theorem dz_mul {n : Nat} {A B C : List (List Int)} (h2 : 2 ≤ n) (h4 : n ≤ 4) (lA : A.length = n) (lB : B.length = n) (lC : C.length = n) (rA : ∀ r ∈ A, r.length = n)
    (h : ∀ k, k < n → ∀ t, t < n → co (C.getD k []) t = co (lin (A.getD k []) B) t) : dz n C = dz n A * dz n B := by
  have hn : n = 2 ∨ n = 3 ∨ n = 4 := by omega
  rcases hn with rfl | rfl | rfl
  · obtain ⟨a0, a1, rfl⟩ := len2 lA
    obtain ⟨p, q, rfl⟩ := len2 lB
    obtain ⟨c0, c1, rfl⟩ := len2 lC
    obtain ⟨a, b, rfl⟩ := len2 (rA a0 (by simp))
    obtain ⟨c, d, rfl⟩ := len2 (rA a1 (by simp))
    have h0 : ∀ t, t < 2 → co c0 t = L2c a b (co p) (co q) t := fun t ht => (h 0 (by decide) t ht).trans (lin2_co ..)
    have h1 : ∀ t, t < 2 → co c1 t = L2c c d (co p) (co q) t := fun t ht => (h 1 (by decide) t ht).trans (lin2_co ..)
    rw [dz2, dz2, dz2, show D2 (co c0) (co c1) = D2 (L2c a b (co p) (co q)) (L2c c d (co p) (co q)) by simp only [D2, h0, h1, Nat.reduceLT], D2_mul]
    rfl
  · obtain ⟨a0, a1, a2, rfl⟩ := len3 lA
    obtain ⟨p, q, x, rfl⟩ := len3 lB
    obtain ⟨c0, c1, c2, rfl⟩ := len3 lC
    obtain ⟨u0, u1, u2, rfl⟩ := len3 (rA a0 (by simp))
    obtain ⟨v0, v1, v2, rfl⟩ := len3 (rA a1 (by simp))
    obtain ⟨w0, w1, w2, rfl⟩ := len3 (rA a2 (by simp))
    have h0 : ∀ t, t < 3 → co c0 t = _ := fun t ht => (h 0 (by decide) t ht).trans (lin3_co ..)
    have h1 : ∀ t, t < 3 → co c1 t = _ := fun t ht => (h 1 (by decide) t ht).trans (lin3_co ..)
    have h2 : ∀ t, t < 3 → co c2 t = _ := fun t ht => (h 2 (by decide) t ht).trans (lin3_co ..)
    rw [dz3, dz3, dz3, ← D3_mul]
    simp only [D3, h0, h1, h2, Nat.reduceLT]
  · obtain ⟨a0, a1, a2, a3, rfl⟩ := len4 lA
    obtain ⟨p, q, x, y, rfl⟩ := len4 lB
    obtain ⟨c0, c1, c2, c3, rfl⟩ := len4 lC
    obtain ⟨u0, u1, u2, u3, rfl⟩ := len4 (rA a0 (by simp))
    obtain ⟨v0, v1, v2, v3, rfl⟩ := len4 (rA a1 (by simp))
    obtain ⟨w0, w1, w2, w3, rfl⟩ := len4 (rA a2 (by simp))
    obtain ⟨z0, z1, z2, z3, rfl⟩ := len4 (rA a3 (by simp))
    have h0 : ∀ t, t < 4 → co c0 t = _ := fun t ht => (h 0 (by decide) t ht).trans (lin4_co ..)
    have h1 : ∀ t, t < 4 → co c1 t = _ := fun t ht => (h 1 (by decide) t ht).trans (lin4_co ..)
    have h2 : ∀ t, t < 4 → co c2 t = _ := fun t ht => (h 2 (by decide) t ht).trans (lin4_co ..)
    have h3 : ∀ t, t < 4 → co c3 t = _ := fun t ht => (h 3 (by decide) t ht).trans (lin4_co ..)
    rw [dz4, dz4, dz4, ← D4_mul]
    simp only [D4, h0, h1, h2, h3, Nat.reduceLT]
end T

set_option maxRecDepth 100000
set_option maxHeartbeats 4000000
namespace T
open PySem PySem.Spec PyProof.Rows L2
/-! ### the table of a number -/
def IsTab (f y : List Int) (n : Nat) (U : List (List Int)) : Prop := U.length = n ∧ ∀ (k : Nat) r, U[k]? = some r → r.length = n ∧ Cf f r (shiftP k y)
theorem IsTab.uniq {f y : List Int} {n : Nat} {U V : List (List Int)} (hf : f.length = n + 1) (h1 : co f n = 1) (hU : IsTab f y n U) (hV : IsTab f y n V) : U = V := by
  apply List.ext_getElem (by rw [hU.1, hV.1])
  intro k hk hk'
  obtain ⟨l1, c1⟩ := hU.2 k _ (List.getElem?_eq_getElem hk)
  obtain ⟨l2, c2⟩ := hV.2 k _ (List.getElem?_eq_getElem hk')
  exact (c1.trans c2.symm).eq hf h1 l1 l2
theorem Cf.shift (k : Nat) {f p q : List Int} (h : Cf f p q) : Cf f (shiftP k p) (shiftP k q) := by
  induction k with
  | zero => exact h
  | succ k ih => exact ih.cons0
theorem mulP_shift_l (k : Nat) (x y : List Int) : ∀ t, co (mulP (shiftP k x) y) t = co (shiftP k (mulP x y)) t := by
  induction k with
  | zero => exact fun t => rfl
  | succ k ih =>
    intro t
    rw [shiftP_succ, mulP_cons0, shiftP_succ]
    match t with
    | 0 => rfl
    | t + 1 => exact ih t
theorem lin_out {n : Nat} : ∀ (as : List Int) (rs : List (List Int)), (∀ r ∈ rs, r.length = n) → ∀ t, n ≤ t → co (lin as rs) t = 0
  | [], _, _, _, _ => rfl
  | _ :: _, [], _, _, _ => rfl
  | a :: as, r :: rs, h, t, ht => by
    show co (addP (scaleP a r) (lin as rs)) t = 0
    rw [addP_co, scaleP_co, co_out (xs := r) (by rw [h r List.mem_cons_self]; exact ht), lin_out as rs (fun r hr => h r (List.mem_cons_of_mem _ hr)) t ht]
    omega
theorem IsTab.row {f y : List Int} {n : Nat} {U : List (List Int)} (hU : IsTab f y n U) {k : Nat} (hk : k < n) : (U.getD k []).length = n ∧ Cf f (U.getD k []) (shiftP k y) := by
  have : U[k]? = some (U.getD k []) := by
    rw [List.getD_eq_getElem?_getD, List.getElem?_eq_getElem (by rw [hU.1]; exact hk)]; rfl
  exact hU.2 k _ this
theorem IsTab.mem {f y : List Int} {n : Nat} {U : List (List Int)} (hU : IsTab f y n U) : ∀ r ∈ U, r.length = n := fun r hr => by
  obtain ⟨k, hk⟩ := List.getElem?_of_mem hr
  exact (hU.2 k r hk).1
theorem IsTab.mul {f x y z : List Int} {n : Nat} {A B C : List (List Int)} (hf : f.length = n + 1) (h1 : co f n = 1) (hA : IsTab f x n A) (hB : IsTab f y n B) (hC : IsTab f z n C) (hz : Cf f z (mulP x y)) :
    ∀ k, k < n → ∀ t, co (C.getD k []) t = co (lin (A.getD k []) B) t := fun k hk => by
  obtain ⟨lc, cc⟩ := hC.row hk
  obtain ⟨la, ca⟩ := hA.row hk
  refine Cf.uniq hf h1 (fun t ht => co_out (by omega)) (lin_out _ _ hB.mem) ?_
  refine cc.trans ((hz.shift k).trans ((Cf.of (mulP_shift_l k x y)).symm.trans (((ca.mul_r y).symm).trans ?_)))
  exact (lin_cf (y := y) (A.getD k []) B 0 (by rw [la, hB.1]; omega) fun j r hj => by rw [Nat.zero_add]; exact (hB.2 j r hj).2).symm
theorem poly_table_is {f y : List Int} {n a b : Nat} (hf : f.length = n + 1) (h1 : co f n = 1) (hy : y.length = n) (hn : 1 ≤ n) (hn2 : n ≤ 4) (ha : ∀ x ∈ f, Sm 9 x) (hb : ∀ x ∈ y, Sm b x) (hab : b < 700000) :
    ∃ U, m_poly_table f y = ok U ∧ IsTab f y n U ∧ Sq (b + 50) n U := by
  obtain ⟨U, e, l, h⟩ := poly_table_ok hf h1 hy hn (by omega) ha (by decide) hb hab
  refine ⟨U, e, ⟨l, fun k r hk => ⟨(h k r hk).1, (h k r hk).2.1⟩⟩, l, fun r hr => ?_⟩
  obtain ⟨k, hk⟩ := List.getElem?_of_mem hr
  have hkn := (List.getElem?_eq_some_iff.mp hk).1
  obtain ⟨q1, _, q3⟩ := h k r hk
  refine ⟨q1, fun x hx => (q3 x hx).mono ?_⟩
  have : k * (9 + 2) ≤ 4 * 11 := Nat.mul_le_mul (by omega) (by omega)
  omega
/-! ### the law's own table -/
noncomputable def m_l_table (poly_here1 : (List Int)) (x2 : (List Int)) : M (List (List Int)) :=
  (M.bind (ok ((List.length poly_here1 : Int) - 1)) fun many3 => (M.bind (M.bind (prangeI many3) fun xs => mapC (fun k5 => (ok (b2n (decide (k5 = 1))))) xs) fun turn4 => (M.bind (ok ([] : List (List Int))) fun rows6 => (M.bind (ok x2) fun row_here7 => (M.bind (M.bind (prangeI many3) fun xs => loopM (fun (s8 : (List (List Int)) × (List Int)) k9 => (M.bind (papp s8.1 s8.2) fun rows10 => (M.bind (m_l_times poly_here1 turn4 s8.2) fun row_here11 => ok (rows10, row_here11)))) (rows6, row_here7) xs) fun s12 => ok s12.1)))))
theorem mulP_zeros (k : Nat) (g : List Int) : ∀ t, co (mulP (List.replicate k 0) g) t = 0 := by
  induction k with
  | zero => exact fun t => rfl
  | succ k ih =>
    intro t
    rw [List.replicate_succ, mulP_cons0]
    match t with
    | 0 => rfl
    | t + 1 => exact ih t
theorem mulP_turn (k : Nat) (g : List Int) : ∀ t, co (mulP (0 :: 1 :: List.replicate k 0) g) t = co (0 :: g) t := fun t => by
  rw [mulP_cons0]
  match t with
  | 0 => rfl
  | t + 1 =>
    show co (addP (scaleP 1 g) (0 :: mulP (List.replicate k 0) g)) t = co g t
    rw [addP_co, scaleP_co]
    match t with
    | 0 => show 1 * co g 0 + 0 = _; omega
    | t + 1 =>
      show 1 * co g (t + 1) + co (mulP (List.replicate k 0) g) t = _
      rw [mulP_zeros]; omega
def turnL (n : Nat) : List Int := 0 :: 1 :: List.replicate (n - 2) 0
theorem turn_ok {n : Nat} (h2 : 2 ≤ n) (h4 : n ≤ 4) : mapC (fun k5 : Int => (ok (b2n (decide (k5 = 1))) : M Int)) (rangeL 0 n) = ok (turnL n) := by
  have hn : n = 2 ∨ n = 3 ∨ n = 4 := by omega
  rcases hn with rfl | rfl | rfl <;> kernel_rfl
theorem turnL_len {n : Nat} (h2 : 2 ≤ n) : (turnL n).length = n := by
  unfold turnL
  simp; omega
theorem turnL_sm {n : Nat} : ∀ x ∈ turnL n, Sm 1 x := fun x hx => by
  unfold turnL at hx
  simp only [List.mem_cons, List.mem_replicate] at hx
  rcases hx with rfl | rfl | ⟨_, rfl⟩ <;> exact Sm.of (A := 1) (by decide) (by decide)
theorem l_table_ok {f y : List Int} {n b : Nat} (hf : f.length = n + 1) (h1 : co f n = 1) (hy : y.length = n) (hn : 2 ≤ n) (hn2 : n ≤ 4) (ha : ∀ x ∈ f, Sm 9 x) (hb : ∀ x ∈ y, Sm b x) (hab : b < 500000) :
    ∃ U, m_l_table f y = ok U ∧ IsTab f y n U := by
  unfold m_l_table
  have e1 : (f.length : Int) - 1 = (n : Int) := by omega
  have hB : ∀ i, i ≤ n → i * (9 + 2) ≤ 44 := fun i hi => by
    have : i * (9 + 2) ≤ 4 * 11 := Nat.mul_le_mul (by omega) (by omega)
    omega
  have h := Tot.loopMi (f := fun (s8 : (List (List Int)) × (List Int)) k9 => (M.bind (papp s8.1 s8.2) fun rows10 => (M.bind (m_l_times f (turnL n) s8.2) fun row_here11 => ok (rows10, row_here11)))) (xs := rangeL 0 n) (c := (([] : List (List Int)), y))
    (fun i (s : List (List Int) × List Int) => s.1.length = i ∧ (∀ (k : Nat) r, s.1[k]? = some r → r.length = n ∧ Cf f r (shiftP k y)) ∧ s.2.length = n ∧ Cf f s.2 (shiftP i y) ∧ ∀ x ∈ s.2, Sm (b + i * (9 + 2)) x)
    ⟨rfl, (fun k r h => by simp at h), hy, Cf.refl _ _, (fun x hx => by rw [Nat.zero_mul]; exact hb x hx)⟩ (fun i s x hx ⟨i1, i2, i3, i4, i5⟩ => by
      have hi := (List.getElem?_eq_some_iff.mp hx).1
      rw [rangeL_len] at hi
      have hBi := hB i (by omega)
      refine .bind (.papp (by omega)) fun q hq => ?_
      obtain ⟨r, e, l, c, m⟩ := root_times_ok hf h1 i3 (by omega) (by omega) ha (by decide) i5 (by omega)
      obtain ⟨z, e2, l2, c2⟩ := l_times_ok hf h1 (turnL_len hn) i3 (by omega) (by omega) ha (by decide) i5 (fun x hx => turnL_sm x hx) (by omega)
      have hz : z = r := ((c2.trans (.of (mulP_turn (n - 2) s.2))).trans c.symm).eq hf h1 l2 l
      rw [e2, bind_ok, hz]
      refine .ok ⟨by dsimp only; rw [hq, List.length_append, i1]; rfl, fun k r' hk => ?_, l, c.trans i4.cons0, fun x hx => (m x hx).mono (by rw [Nat.succ_mul]; omega)⟩
      dsimp only at hk
      rw [hq] at hk
      by_cases hki : k < s.1.length
      · rw [List.getElem?_append_left hki] at hk; exact i2 k r' hk
      · rw [List.getElem?_append_right (by omega)] at hk
        have hz : k - s.1.length = 0 := by
          by_cases z : k - s.1.length = 0
          · exact z
          · rw [show k - s.1.length = (k - s.1.length - 1) + 1 by omega] at hk; simp at hk
        rw [hz] at hk
        have : s.2 = r' := by simpa using hk
        rw [← this, show k = i by omega]
        exact ⟨i3, i4⟩)
  obtain ⟨s, e, h1', h2, _⟩ := h
  rw [rangeL_len] at h1'
  refine ⟨s.1, ?_, h1', h2⟩
  rw [e1, bind_ok, pr_nat (by omega), bind_ok, turn_ok hn hn2, bind_ok, bind_ok, bind_ok, bind_ok, e, bind_ok]
theorem tables_same {f y : List Int} {n b : Nat} (hf : f.length = n + 1) (h1 : co f n = 1) (hy : y.length = n) (hn : 2 ≤ n) (hn2 : n ≤ 4) (ha : ∀ x ∈ f, Sm 9 x) (hb : ∀ x ∈ y, Sm b x) (hab : b < 500000) :
    ∃ U, m_poly_table f y = ok U ∧ m_l_table f y = ok U ∧ IsTab f y n U ∧ Sq (b + 50) n U := by
  obtain ⟨U, e, t, s⟩ := poly_table_is hf h1 hy (by omega) hn2 (a := 0) ha hb (by omega)
  obtain ⟨V, e2, t2⟩ := l_table_ok hf h1 hy hn hn2 ha hb hab
  have := t.uniq hf h1 t2
  subst this
  exact ⟨U, e, e2, t, s⟩
end T

set_option maxRecDepth 100000
set_option maxHeartbeats 4000000
namespace T
open PySem PySem.Spec PyProof.Rows L2
/-! ### norm and trace -/
noncomputable def m_norm (ring1 : (Option Rg)) (x2 : (List Int)) : M Int :=
  (M.bind (M.bind (M.bind (unO ring1) fun u3 => ok u3.1) fun u4 => (m_poly_table u4 x2)) fun u5 => (m_det u5))
noncomputable def m_trace_by (poly1 : (List Int)) (x2 : (List Int)) : M Int :=
  (M.bind (m_poly_table poly1 x2) fun rows3 => (M.bind (M.bind (prangeI (List.length rows3 : Int)) fun xs => mapC (fun k4 => (M.bind (pget rows3 k4) fun u5 => (pget u5 k4))) xs) fun u6 => ok (List.sum u6)))
noncomputable def m_trace (ring1 : (Option Rg)) (x2 : (List Int)) : M Int :=
  (M.bind (M.bind (unO ring1) fun u3 => ok u3.1) fun u4 => (m_trace_by u4 x2))
noncomputable def m_table_of (ring1 : (Option Rg)) (x2 : (List Int)) : M (List (List Int)) :=
  (M.bind (M.bind (unO ring1) fun u3 => ok u3.1) fun u4 => (m_poly_table u4 x2))
noncomputable def m_l_is_table (found1 : (List (List Int))) (many2 : Int) : M Bool :=
  (M.bind (M.bind (ok (!true)) fun z3 => if z3 = true then ok true else (ok ((!decide ((List.length found1 : Int) = many2))))) fun z4 => if z4 = true then (ok false) else (M.bind (mapC (fun row_here5 => (m_l_row row_here5 many2)) found1) fun u6 => ok (List.all u6 id)))
noncomputable def m_l_nearer (x1 : (List Int)) : M (List Int) :=
  (mapC (fun place2 => (M.bind (ok (decide ((Int.natAbs place2 : Int) < 10000000000000000000000000000000000000000))) fun z3 => if z3 = true then (ok place2) else (ok (place2 % 10000000000000000000000000000000000000000)))) x1)
noncomputable def m_l_value (poly_here1 : (List Int)) (r2 : Int) : M Int :=
  (M.bind (ok 0) fun total3 => (M.bind (M.bind (ok (List.reverse poly_here1)) fun xs => loopM (fun (total4 : Int) place5 => (M.bind (M.bind (pmul total4 r2) fun u7 => ok (u7 + place5)) fun total6 => ok (total6))) (total3) xs) fun total8 => (ok total8)))
theorem norm_of {r : Rg} {x : List Int} {U : List (List Int)} {n b : Nat} (e : m_poly_table r.1 x = ok U) (h1 : 1 ≤ n) (h2 : n ≤ 6) (hb : b ≤ 10000) (hs : Sq b n U) : m_norm (some r) x = ok (dz n U) := by
  unfold m_norm
  rw [unO_some, bind_ok, bind_ok, e, bind_ok, det_dz h1 h2 hb hs]
def traceZ (n : Nat) (U : List (List Int)) : Int := List.sum ((rangeL 0 n).map fun k => co (U.getD k.toNat []) k.toNat)
theorem diag_ok {b n : Nat} {U : List (List Int)} (hn : n ≤ 1000) (hs : Sq b n U) : (M.bind (M.bind (prangeI (n : Int)) fun xs => mapC (fun k4 => (M.bind (pget U k4) fun u5 => (pget u5 k4))) xs) fun u6 => (ok (List.sum u6) : M Int)) = ok (traceZ n U) := by
  rw [pr_nat (by omega), bind_ok, mapC_ok (g := fun k => co (U.getD k.toNat []) k.toNat) (fun k hk => by
    obtain ⟨j, hj⟩ := List.getElem?_of_mem hk
    obtain ⟨rfl, hjn⟩ := range_get hj
    have h1 : j < U.length := by rw [hs.1]; exact hjn
    rw [pget_getD h1, bind_ok, Int.toNat_natCast]
    exact pget_co (by rw [(hs.2 _ (getD_mem h1)).1]; exact hjn)) (by rw [sizeLineE, rangeL_len]; omega), bind_ok]
  rfl
theorem trace_of {r : Rg} {x : List Int} {U : List (List Int)} {n b : Nat} (e : m_poly_table r.1 x = ok U) (hn : n ≤ 1000) (hs : Sq b n U) : m_trace (some r) x = ok (traceZ n U) := by
  unfold m_trace m_trace_by
  rw [unO_some, bind_ok, bind_ok, e, bind_ok, hs.1, diag_ok hn hs]
theorem l_is_table_ok {b n : Nat} {U : List (List Int)} (hn : n ≤ 1000) (hs : Sq b n U) : m_l_is_table U (n : Int) = ok true := by
  unfold m_l_is_table
  rw [bind_ok, if_neg (by decide), bind_okS, hs.1, decide_eq_true rfl, if_neg (by decide), mapC_ok (f := fun row_here5 => m_l_row row_here5 (n : Int)) (g := fun _ => true) (fun y hy => l_row_ok (hs.2 y hy).1 hn) (by rw [sizeLineE, hs.1]; omega), bind_ok]
  congr 1
  rw [List.all_eq_true]
  intro y hy
  obtain ⟨_, _, rfl⟩ := List.mem_map.mp hy
  rfl
theorem l_nearer_ok {x : List Int} {n : Nat} (hx : x.length = n) (hn : n ≤ 1000) : Tot (m_l_nearer x) fun y => y.length = n ∧ ∀ z ∈ y, Sm 140 z := by
  unfold m_l_nearer
  refine (Tot.mapC (P := Sm 140) (fun z _ => ?_) (by omega)).mono fun y hy => ⟨by rw [hy.1, hx], hy.2⟩
  rw [bind_ok]
  refine .ite (fun h => .ok ?_) fun h => .ok ?_
  · have := of_decide_eq_true h
    exact Sm.of (A := 10000000000000000000000000000000000000000) (by omega) (by decide +kernel)
  · exact Sm.of (A := 10000000000000000000000000000000000000000) (by omega) (by decide +kernel)
theorem l_value_ok {f : List Int} {z : Int} {n : Nat} (hf : f.length ≤ 5) (hx : ∀ x ∈ f, Sm 9 x) (hz : Sm 1000 z) : m_l_value f z = ok (ev f z) :=
  horner_val hx hz (by have : (f.length + 1) * (1000 + 9 + 2) ≤ 6 * 1011 := Nat.mul_le_mul (by omega) (by omega)
                       omega)
/-- a number less the root -/
def lessRoot (z : Int) (n : Nat) : List Int := [z, -1] ++ List.replicate (n - 2) 0
theorem lessRoot_norm {f : List Int} {z : Int} {n : Nat} {U : List (List Int)} (hg : Gd f) (hn : f.length = n + 1) (e : m_poly_table f (lessRoot z n) = ok U) : dz n U = ev f z := by
  rcases hg.cases with ⟨a, b, rfl, ha, hb⟩ | ⟨a, b, c, rfl, ha, hb, hc⟩ | ⟨a, b, c, d, rfl, ha, hb, hc, hd'⟩
  · have : n = 2 := by simpa using hn.symm
    subst this
    have p := pt2 (x := z) (y := -1) ha hb
    have h : ok [[z, -1], [0 - -1 * a, z - -1 * b]] = ok U := p.symm.trans e
    cases h
    rw [dz2]
    simp only [D2, co, ev]
    grind
  · have : n = 3 := by simpa using hn.symm
    subst this
    obtain ⟨p, q, r, s, t, u, e2, hp, hq, hr, hs, ht, hu⟩ := pt3 (x := z) (y := -1) (z := 0) ha hb hc
    have h := e2.symm.trans e
    cases h
    rw [dz3]
    simp only [D3, co, ev]
    subst hp; subst hq; subst hr; subst hs; subst ht; subst hu
    grind
  · have : n = 4 := by simpa using hn.symm
    subst this
    obtain ⟨p, q, r, s, t, u, v, k, l, m', n, o, e2, hp, ht, hl, hm, hn', ho⟩ := pt4 (x := z) (y := -1) (z := 0) (w := 0) ha hb hc hd'
    have h := e2.symm.trans e
    cases h
    rw [dz4]
    simp only [D4, co, ev]
    obtain ⟨rfl, rfl, rfl, rfl⟩ := hp
    obtain ⟨rfl, rfl, rfl, rfl⟩ := ht
    subst hl; subst hm; subst hn'; subst ho
    grind
end T

set_option maxRecDepth 100000
set_option maxHeartbeats 4000000
namespace T
open PySem PySem.Spec PyProof.Rows L2
/-! ### powers of a number as rows, by its table -/
def rowMul (n : Nat) (v : List Int) (A : List (List Int)) : List Int := (List.range n).map fun t => co (lin v A) t
theorem rowMul_len (n : Nat) (v : List Int) (A : List (List Int)) : (rowMul n v A).length = n := by unfold rowMul; rw [List.length_map, List.length_range]
theorem co_mapRange (g : Nat → Int) (n t : Nat) : co ((List.range n).map g) t = if t < n then g t else 0 := by
  by_cases h : t < n
  · rw [if_pos h]
    exact co_some (by rw [List.getElem?_map, List.getElem?_range h]; rfl)
  · rw [if_neg h, co_out (by rw [List.length_map, List.length_range]; omega)]
theorem rowMul_co {n : Nat} {v : List Int} {A : List (List Int)} (hA : ∀ r ∈ A, r.length = n) (t : Nat) : co (rowMul n v A) t = co (lin v A) t := by
  unfold rowMul
  rw [co_mapRange]
  by_cases h : t < n
  · rw [if_pos h]
  · rw [if_neg h, lin_out v A hA t (by omega)]
theorem rowMul_cf {f x v : List Int} {n : Nat} {A : List (List Int)} (hA : IsTab f x n A) (hv : v.length = n) : Cf f (rowMul n v A) (mulP v x) :=
  (Cf.of (rowMul_co hA.mem)).trans (lin_cf (y := x) v A 0 (by rw [hv, hA.1]; omega) fun j r hj => by rw [Nat.zero_add]; exact (hA.2 j r hj).2)
theorem prod_row {f x v : List Int} {n b c : Nat} {A : List (List Int)} (hf : f.length = n + 1) (h1 : co f n = 1) (hx : x.length = n) (hv : v.length = n) (hn : 1 ≤ n) (hn4 : n ≤ 4) (ha : ∀ x ∈ f, Sm 9 x) (hb : ∀ z ∈ x, Sm b z) (hc : ∀ z ∈ v, Sm c z) (hbc : b + c < 500000) (hA : IsTab f x n A) :
    m_product_by f v x = ok (rowMul n v A) ∧ m_l_times f v x = ok (rowMul n v A) ∧ ∀ w ∈ rowMul n v A, Sm (c + b + 50) w := by
  obtain ⟨z, e, l, k, s⟩ := product_ok hf h1 hv hx hn (by omega) ha (by decide) hb hc (by omega)
  obtain ⟨z', e2, l2, k2⟩ := l_times_ok hf h1 hv hx hn (by omega) ha (by decide) hb hc (by omega)
  have hz : z = rowMul n v A := (k.trans (rowMul_cf hA hv).symm).eq hf h1 l (rowMul_len n v A)
  have hz' : z' = rowMul n v A := (k2.trans (rowMul_cf hA hv).symm).eq hf h1 l2 (rowMul_len n v A)
  subst hz
  subst hz'
  have : n * (9 + 2) ≤ 4 * 11 := Nat.mul_le_mul_right _ hn4
  exact ⟨e, e2, fun w hw => (s w hw).mono (by omega)⟩
def xp (n : Nat) (x : List Int) (A : List (List Int)) : Nat → List Int
  | 0 => x
  | k + 1 => rowMul n (xp n x A k) A
def tp (n : Nat) (A : List (List Int)) : Nat → List (List Int)
  | 0 => A
  | k + 1 => (tp n A k).map fun r => rowMul n r A
theorem xp_len {n : Nat} {x : List Int} {A : List (List Int)} (hx : x.length = n) : ∀ k, (xp n x A k).length = n
  | 0 => hx
  | k + 1 => rowMul_len ..
theorem tp_is {f x : List Int} {n : Nat} {A : List (List Int)} (hx : x.length = n) (hA : IsTab f x n A) : ∀ k, IsTab f (xp n x A k) n (tp n A k)
  | 0 => hA
  | k + 1 => by
    have ih := tp_is hx hA k
    refine ⟨by show (List.map _ _).length = n; rw [List.length_map]; exact ih.1, fun j r hj => ?_⟩
    have hj' : ((tp n A k).map fun r => rowMul n r A)[j]? = some r := hj
    rw [List.getElem?_map] at hj'
    obtain ⟨q, hq, rfl⟩ := Option.map_eq_some_iff.mp hj'
    obtain ⟨l, c⟩ := ih.2 j q hq
    refine ⟨rowMul_len .., (rowMul_cf hA l).trans ((c.mul_r x).trans ((Cf.of (mulP_shift_l j _ x)).trans ?_))⟩
    exact (rowMul_cf hA (xp_len hx k)).symm.shift j
theorem xp_sm {f x : List Int} {n b : Nat} {A : List (List Int)} (hf : f.length = n + 1) (h1 : co f n = 1) (hx : x.length = n) (hn : 1 ≤ n) (hn4 : n ≤ 4) (ha : ∀ x ∈ f, Sm 9 x) (hb : ∀ z ∈ x, Sm b z) (hb2 : b ≤ 1000) (hA : IsTab f x n A) :
    ∀ k, k ≤ 10 → ∀ z ∈ xp n x A k, Sm ((k + 1) * (b + 50)) z
  | 0, _ => fun z hz => (hb z hz).mono (by omega)
  | k + 1, hk => fun z hz => by
    have h3 : (k + 1) * (b + 50) ≤ 10 * 1050 := Nat.mul_le_mul (by omega) (by omega)
    have h2 := (prod_row hf h1 hx (xp_len hx k) hn hn4 ha hb (xp_sm hf h1 hx hn hn4 ha hb hb2 hA k (by omega)) (by omega) hA).2.2 z hz
    refine h2.mono ?_
    rw [Nat.succ_mul (k + 1)]
    omega
/-- the traces of the powers -/
def trs (n : Nat) (A : List (List Int)) : Nat → Int
  | 0 => n
  | k + 1 => traceZ n (tp n A k)
theorem sum_sm {b : Nat} : ∀ xs : List Int, (∀ x ∈ xs, Sm b x) → Sm (b + xs.length) xs.sum
  | [], _ => Nat.zero_le _
  | x :: xs, h => by
    rw [List.sum_cons]
    exact (((h x List.mem_cons_self).mono (show b ≤ b + xs.length by omega)).add (sum_sm xs fun y hy => h y (List.mem_cons_of_mem _ hy))).mono (by simp; omega)
theorem trs_ok {f x : List Int} {n b : Nat} {A : List (List Int)} (hf : f.length = n + 1) (h1 : co f n = 1) (hx : x.length = n) (hn : 1 ≤ n) (hn4 : n ≤ 4) (ha : ∀ x ∈ f, Sm 9 x) (hb : ∀ z ∈ x, Sm b z) (hb2 : b ≤ 1000) (hA : IsTab f x n A) {k : Nat} (hk : k ≤ 10) :
    m_trace_by f (xp n x A k) = ok (trs n A (k + 1)) ∧ Sm ((k + 1) * (b + 50) + 60) (trs n A (k + 1)) := by
  have hs := xp_sm hf h1 hx hn hn4 ha hb hb2 hA k hk
  have h3 : (k + 1) * (b + 50) ≤ 11 * 1050 := Nat.mul_le_mul (by omega) (by omega)
  obtain ⟨U, e, hU, sU⟩ := poly_table_is hf h1 (xp_len hx k) hn hn4 (a := 0) ha hs (by omega)
  have hUt := hU.uniq hf h1 (tp_is hx hA k)
  subst hUt
  refine ⟨?_, ?_⟩
  · unfold m_trace_by
    rw [e, bind_ok, sU.1, diag_ok (by omega) sU]
    rfl
  · show Sm _ (traceZ n (tp n A k))
    have := sum_sm (b := (k + 1) * (b + 50) + 50) ((rangeL 0 n).map fun k' => co ((tp n A k).getD k'.toNat []) k'.toNat) (fun y hy => by
      obtain ⟨j, hj, rfl⟩ := List.mem_map.mp hy
      by_cases hc : j.toNat < n
      · exact co_sm (sU.2 _ (getD_mem (by rw [sU.1]; exact hc))).2 _
      · rw [List.getD_eq_getElem?_getD, List.getElem?_eq_none (by rw [sU.1]; omega)]
        exact Nat.zero_le _)
    refine Sm.mono this ?_
    rw [List.length_map, rangeL_len]
    omega
/-! ### the own polynomial, by the traces -/
noncomputable def m_poly_own (poly1 : (List Int)) (x2 : (List Int)) : M (List Int) :=
  (M.bind (ok (List.length x2 : Int)) fun many3 => (M.bind (ok [many3]) fun traces4 => (M.bind (ok x2) fun row5 => (M.bind (M.bind (prangeI many3) fun xs => loopM (fun (s6 : (List Int) × (List Int)) k7 => (M.bind (M.bind (m_trace_by poly1 s6.2) fun u8 => (papp s6.1 u8)) fun traces9 => (M.bind (m_product_by poly1 s6.2 x2) fun row10 => ok (traces9, row10)))) (traces4, row5) xs) fun s11 => (M.bind (ok [1]) fun signed12 => (M.bind (M.bind (prange2 1 (many3 + 1)) fun xs => loopM (fun (signed13 : (List Int)) k14 => (M.bind (ok 0) fun total15 => (M.bind (M.bind (prange2 1 (k14 + 1)) fun xs => loopM (fun (total16 : Int) i17 => (M.bind (M.bind (M.bind (pget signed13 (k14 - i17)) fun u19 => M.bind (pget s11.1 i17) fun u20 => (pmul u19 u20)) fun u21 => ok (total16 - u21)) fun total18 => ok (total18))) (total15) xs) fun total22 => (M.bind (M.bind (pdiv total22 k14) fun u23 => (papp signed13 u23)) fun signed24 => ok (signed24))))) (signed12) xs) fun signed25 => (ok (List.reverse signed25))))))))
def newt (c t : Nat → Int) (k : Nat) : Int := (List.range k).foldl (fun tot i => tot - c (k - (i + 1)) * t (i + 1)) 0
theorem fold_sm {b : Nat} {g : Nat → Int} : ∀ (l : List Nat) (tot : Int) (m : Nat), Sm m tot → b ≤ m → (∀ i ∈ l, Sm b (g i)) → Sm (m + l.length) (l.foldl (fun tot i => tot - g i) tot)
  | [], tot, m, h, _, _ => h
  | i :: l, tot, m, h, hm, hg => by
    have h1 : Sm (m + 1) (tot - g i) := by
      rw [Int.sub_eq_add_neg]
      exact (h.add (((hg i List.mem_cons_self).mono hm).neg)).mono (by omega)
    exact (fold_sm l _ (m + 1) h1 (by omega) fun j hj => hg j (List.mem_cons_of_mem _ hj)).mono (by simp; omega)
theorem sm_of_mul {k : Nat} {m : Nat} {x : Int} (hk : 1 ≤ k) (h : Sm m ((k : Int) * x)) : Sm m x := by
  unfold Sm at h ⊢
  refine Nat.le_trans (log2_le ?_) h
  rw [Int.natAbs_mul, Int.natAbs_natCast]
  exact Nat.le_mul_of_pos_left _ hk
theorem newt_sm {c t : Nat → Int} {n T : Nat} (hn : n ≤ 10) (h0 : c 0 = 1) (ht : ∀ k, k ≤ n → Sm T (t k)) (hN : ∀ k, 1 ≤ k → k ≤ n → newt c t k = k * c k) : ∀ k, k ≤ n → ∀ j, j ≤ k → Sm (j * (T + 20)) (c j)
  | 0, _, j, hj => by
    have : j = 0 := by omega
    subst this
    rw [h0]
    exact (show Sm 0 (1 : Int) from Sm.of (A := 1) (by decide) (by decide +kernel)).mono (Nat.zero_le _)
  | k + 1, hk, j, hj => by
    have ih := newt_sm hn h0 ht hN k (by omega)
    by_cases e : j ≤ k
    · exact ih j e
    · have : j = k + 1 := by omega
      subst this
      refine sm_of_mul (k := k + 1) (by omega) ?_
      have hN' := hN (k + 1) (by omega) hk
      rw [← hN']
      have hb : ∀ i ∈ List.range (k + 1), Sm (k * (T + 20) + T + 1) (c (k + 1 - (i + 1)) * t (i + 1)) := fun i hi => by
        have hi' := List.mem_range.mp hi
        have h1 := ih (k + 1 - (i + 1)) (by omega)
        have h2 : (k + 1 - (i + 1)) * (T + 20) ≤ k * (T + 20) := Nat.mul_le_mul_right _ (by omega)
        exact ((h1.mono h2).mul (ht (i + 1) (by omega))).mono (by omega)
      have := fold_sm (List.range (k + 1)) 0 (k * (T + 20) + T + 1) (Nat.zero_le _) (Nat.le_refl _) hb
      rw [List.length_range] at this
      refine Sm.mono this ?_
      rw [Nat.succ_mul]
      omega
theorem range1_get {n i : Nat} {x : Int} (h : (rangeL 1 n)[i]? = some x) : x = ((i + 1 : Nat) : Int) ∧ i < n := by
  rw [rangeL_get] at h
  by_cases c : i < n
  · rw [if_pos c] at h
    have := Option.some.inj h
    omega
  · rw [if_neg c] at h; cases h
theorem prange1 {n : Nat} (h : n < 999) : prange2 1 ((n : Int) + 1) = ok (rangeL 1 n) := by
  have := r2 (n + 1) (by omega)
  rw [show ((n + 1 : Nat) : Int) = (n : Int) + 1 by omega] at this
  exact this
theorem newt_loop {c t : Nat → Int} {n k T : Nat} {S U : List Int} (hn : n ≤ 10) (hk : k ≤ n) (hk1 : 1 ≤ k) (hT : T ≤ 50000) (hS : S = (List.range k).map c) (hU : U = (List.range (n + 1)).map t) (hc : ∀ j, j < k → Sm (j * (T + 20)) (c j)) (ht : ∀ j, j ≤ n → Sm T (t j)) :
    loopM (fun (total16 : Int) i17 => (M.bind (M.bind (M.bind (pget S ((k : Int) - i17)) fun u19 => M.bind (pget U i17) fun u20 => (pmul u19 u20)) fun u21 => ok (total16 - u21)) fun total18 => ok (total18))) 0 (rangeL 1 k) = ok (newt c t k) := by
  have e : rangeL 1 k = (List.range k).map fun i : Nat => ((i + 1 : Nat) : Int) := by
    unfold rangeL
    apply List.map_congr_left
    intro i _
    omega
  have key : ∀ (l : List Nat) (tot : Int), (∀ i ∈ l, i < k) → loopM (fun (total16 : Int) i17 => (M.bind (M.bind (M.bind (pget S ((k : Int) - i17)) fun u19 => M.bind (pget U i17) fun u20 => (pmul u19 u20)) fun u21 => ok (total16 - u21)) fun total18 => ok (total18))) tot (l.map fun i : Nat => ((i + 1 : Nat) : Int)) = ok (l.foldl (fun tot i => tot - c (k - (i + 1)) * t (i + 1)) tot) := by
    intro l
    induction l with
    | nil => exact fun _ _ => rfl
    | cons i l ih =>
      intro tot hl
      have hi := hl i List.mem_cons_self
      have e1 : pget S ((k : Int) - ((i + 1 : Nat) : Int)) = ok (c (k - (i + 1))) := by
        rw [show (k : Int) - ((i + 1 : Nat) : Int) = ((k - (i + 1) : Nat) : Int) by omega, pget_co (by rw [hS, List.length_map, List.length_range]; omega), hS, co_mapRange, if_pos (by omega)]
      have e2 : pget U ((i + 1 : Nat) : Int) = ok (t (i + 1)) := by
        rw [pget_co (by rw [hU, List.length_map, List.length_range]; omega), hU, co_mapRange, if_pos (by omega)]
      have hb : (k - (i + 1)) * (T + 20) ≤ 10 * 50020 := Nat.mul_le_mul (by omega) (by omega)
      rw [List.map_cons, loopM_cons, e1, bind_ok, e2, bind_ok, mul_sm (hc _ (by omega)) (ht _ (by omega)) (by omega), bind_ok, bind_ok, bind_ok, ih _ fun j hj => hl j (List.mem_cons_of_mem _ hj)]
      rfl
  rw [e]
  exact key _ 0 fun i hi => List.mem_range.mp hi
def ownL (n : Nat) (c : Nat → Int) : List Int := ((List.range (n + 1)).map c).reverse
theorem own_ok {f x : List Int} {n b : Nat} {A : List (List Int)} {c : Nat → Int} (hf : f.length = n + 1) (h1 : co f n = 1) (hx : x.length = n) (hn : 1 ≤ n) (hn4 : n ≤ 4) (ha : ∀ x ∈ f, Sm 9 x) (hb : ∀ z ∈ x, Sm b z) (hb2 : b ≤ 1000) (hA : IsTab f x n A)
    (h0 : c 0 = 1) (hN : ∀ k, 1 ≤ k → k ≤ n → newt c (trs n A) k = k * c k) : m_poly_own f x = ok (ownL n c) ∧ ∀ k, k ≤ n → Sm 20000 (c k) := by
  have ht : ∀ k, k ≤ n → Sm 4300 (trs n A k) := fun k hk => by
    match k with
    | 0 => exact Sm.of (A := 4) (by show (n : Int).natAbs ≤ 4; omega) (by decide +kernel)
    | k + 1 =>
      have := (trs_ok hf h1 hx hn hn4 ha hb hb2 hA (k := k) (by omega)).2
      have h3 : (k + 1) * (b + 50) ≤ 4 * 1050 := Nat.mul_le_mul (by omega) (by omega)
      exact this.mono (by omega)
  have hc := newt_sm (by omega) h0 ht hN n (Nat.le_refl _)
  refine ⟨?_, fun k hk => (hc k hk).mono (by
    have : k * (4300 + 20) ≤ 4 * 4320 := Nat.mul_le_mul (by omega) (by omega)
    omega)⟩
  unfold m_poly_own
  rw [bind_ok, bind_ok, bind_ok, hx, pr_nat (by omega), bind_ok]
  have L1 := Tot.loopMi (f := fun (s6 : (List Int) × (List Int)) k7 => (M.bind (M.bind (m_trace_by f s6.2) fun u8 => (papp s6.1 u8)) fun traces9 => (M.bind (m_product_by f s6.2 x) fun row10 => ok (traces9, row10)))) (xs := rangeL 0 n) (c := (([(n : Int)], x) : List Int × List Int))
    (fun i (s : List Int × List Int) => s.1 = (List.range (i + 1)).map (trs n A) ∧ s.2 = xp n x A i) ⟨rfl, rfl⟩ (fun i s y hy ⟨i1, i2⟩ => by
      have hi := (List.getElem?_eq_some_iff.mp hy).1
      rw [rangeL_len] at hi
      have hs := xp_sm hf h1 hx hn hn4 ha hb hb2 hA i (by omega)
      have h3 : (i + 1) * (b + 50) ≤ 4 * 1050 := Nat.mul_le_mul (by omega) (by omega)
      rw [i2, (trs_ok hf h1 hx hn hn4 ha hb hb2 hA (k := i) (by omega)).1, bind_ok]
      refine .bind (.papp (by rw [i1, List.length_map, List.length_range]; omega)) fun q hq => ?_
      rw [(prod_row hf h1 hx (xp_len hx i) hn hn4 ha hb hs (by omega) hA).1, bind_ok]
      refine .ok ⟨?_, rfl⟩
      dsimp only
      rw [hq, i1, List.range_succ (n := i + 1), List.map_append]
      rfl)
  obtain ⟨⟨U, w⟩, e1, hU, _⟩ := L1
  rw [rangeL_len] at hU
  dsimp only at hU
  rw [e1, bind_ok, bind_ok, prange1 (by omega), bind_ok]
  have L2 := Tot.loopMi (f := fun (signed13 : (List Int)) k14 => (M.bind (ok 0) fun total15 => (M.bind (M.bind (prange2 1 (k14 + 1)) fun xs => loopM (fun (total16 : Int) i17 => (M.bind (M.bind (M.bind (pget signed13 (k14 - i17)) fun u19 => M.bind (pget U i17) fun u20 => (pmul u19 u20)) fun u21 => ok (total16 - u21)) fun total18 => ok (total18))) (total15) xs) fun total22 => (M.bind (M.bind (pdiv total22 k14) fun u23 => (papp signed13 u23)) fun signed24 => ok (signed24))))) (xs := rangeL 1 n) (c := ([1] : List Int))
    (fun i (s : List Int) => s = (List.range (i + 1)).map c) (by show [1] = [c 0]; rw [h0]) (fun i s y hy i1 => by
      obtain ⟨rfl, hi⟩ := range1_get hy
      rw [bind_ok, prange1 (by omega), bind_ok, newt_loop (n := n) (k := i + 1) (T := 4300) (by omega) (by omega) (by omega) (by omega) i1 hU (fun j hj => hc j (by omega)) ht, bind_ok, hN (i + 1) (by omega) (by omega), pdiv_pos (A := 4) (by omega) (by omega), bind_ok, Int.mul_ediv_cancel_left _ (by omega)]
      refine .bind (.papp (by rw [i1, List.length_map, List.length_range]; omega)) fun q hq => .ok ?_
      rw [hq, i1, List.range_succ (n := i + 1), List.map_append]
      rfl)
  obtain ⟨S, e2, hS⟩ := L2
  rw [rangeL_len] at hS
  rw [e2, bind_ok, hS]
  rfl
end T

set_option maxRecDepth 100000
set_option maxHeartbeats 8000000
namespace T
open PySem PySem.Spec PyProof.Rows L2
/-! ### the own polynomial of a table, place by place -/
def P2 (r s : Nat → Int) (i j : Nat) : Int := r i * s j - r j * s i
def P3 (r s u : Nat → Int) (i j k : Nat) : Int := r i * P2 s u j k - r j * P2 s u i k + r k * P2 s u i j
def cpc2 (r s : Nat → Int) : Nat → Int
  | 0 => 1
  | 1 => -(r 0 + s 1)
  | _ => D2 r s
def cpc3 (r s u : Nat → Int) : Nat → Int
  | 0 => 1
  | 1 => -(r 0 + s 1 + u 2)
  | 2 => P2 r s 0 1 + P2 r u 0 2 + P2 s u 1 2
  | _ => -D3 r s u
def cpc4 (r s u v : Nat → Int) : Nat → Int
  | 0 => 1
  | 1 => -(r 0 + s 1 + u 2 + v 3)
  | 2 => P2 r s 0 1 + P2 r u 0 2 + P2 r v 0 3 + P2 s u 1 2 + P2 s v 1 3 + P2 u v 2 3
  | 3 => -(P3 r s u 0 1 2 + P3 r s v 0 1 3 + P3 r u v 0 2 3 + P3 s u v 1 2 3)
  | _ => D4 r s u v
def cpA (n : Nat) (A : List (List Int)) : Nat → Int :=
  match n with
  | 2 => cpc2 (co (A.getD 0 [])) (co (A.getD 1 []))
  | 3 => cpc3 (co (A.getD 0 [])) (co (A.getD 1 [])) (co (A.getD 2 []))
  | _ => cpc4 (co (A.getD 0 [])) (co (A.getD 1 [])) (co (A.getD 2 [])) (co (A.getD 3 []))
theorem tr2 (r s : List Int) : traceZ 2 [r, s] = co r 0 + co s 1 := by
  show co r 0 + (co s 1 + 0) = _
  omega
theorem tr3 (r s u : List Int) : traceZ 3 [r, s, u] = co r 0 + co s 1 + co u 2 := by
  show co r 0 + (co s 1 + (co u 2 + 0)) = _
  omega
theorem tr4 (r s u v : List Int) : traceZ 4 [r, s, u, v] = co r 0 + co s 1 + co u 2 + co v 3 := by
  show co r 0 + (co s 1 + (co u 2 + (co v 3 + 0))) = _
  omega
theorem rm2 (x y a b c d : Int) : rowMul 2 [x, y] [[a, b], [c, d]] = [x * a + y * c, x * b + y * d] := by
  show [co (lin _ _) 0, co (lin _ _) 1] = _
  rw [lin2_co, lin2_co]
  rfl
theorem rm3 (x y z a b c d e f g h i : Int) : rowMul 3 [x, y, z] [[a, b, c], [d, e, f], [g, h, i]] = [x * a + y * d + z * g, x * b + y * e + z * h, x * c + y * f + z * i] := by
  show [co (lin _ _) 0, co (lin _ _) 1, co (lin _ _) 2] = _
  rw [lin3_co, lin3_co, lin3_co]
  rfl
theorem rm4 (x y z w a b c d e f g h i j k l m n o p : Int) : rowMul 4 [x, y, z, w] [[a, b, c, d], [e, f, g, h], [i, j, k, l], [m, n, o, p]] = [x * a + y * e + z * i + w * m, x * b + y * f + z * j + w * n, x * c + y * g + z * k + w * o, x * d + y * h + z * l + w * p] := by
  show [co (lin _ _) 0, co (lin _ _) 1, co (lin _ _) 2, co (lin _ _) 3] = _
  rw [lin4_co, lin4_co, lin4_co, lin4_co]
  rfl
theorem newton2 (a b c d : Int) : ∀ k, 1 ≤ k → k ≤ 2 → newt (cpA 2 [[a, b], [c, d]]) (trs 2 [[a, b], [c, d]]) k = k * cpA 2 [[a, b], [c, d]] k := fun k h1 h2 => by
  have hk : k = 1 ∨ k = 2 := by omega
  rcases hk with rfl | rfl
  · simp [newt, List.range_succ, trs, tp, tr2, cpA, cpc2, co]
  · simp [newt, List.range_succ, trs, tp, tr2, rm2, cpA, cpc2, D2, co]
    grind
theorem newton3 (a b c d e f g h i : Int) : ∀ k, 1 ≤ k → k ≤ 3 → newt (cpA 3 [[a, b, c], [d, e, f], [g, h, i]]) (trs 3 [[a, b, c], [d, e, f], [g, h, i]]) k = k * cpA 3 [[a, b, c], [d, e, f], [g, h, i]] k := fun k h1 h2 => by
  have hk : k = 1 ∨ k = 2 ∨ k = 3 := by omega
  rcases hk with rfl | rfl | rfl
  · simp [newt, List.range_succ, trs, tp, tr3, cpA, cpc3, co]
  · simp [newt, List.range_succ, trs, tp, tr3, rm3, cpA, cpc3, P2, co]
    grind
  · simp [newt, List.range_succ, trs, tp, tr3, rm3, cpA, cpc3, P2, D3, co]
    grind
theorem newton4 (a b c d e f g h i j k' l m n o p : Int) : ∀ k, 1 ≤ k → k ≤ 4 → newt (cpA 4 [[a, b, c, d], [e, f, g, h], [i, j, k', l], [m, n, o, p]]) (trs 4 [[a, b, c, d], [e, f, g, h], [i, j, k', l], [m, n, o, p]]) k = k * cpA 4 [[a, b, c, d], [e, f, g, h], [i, j, k', l], [m, n, o, p]] k := fun k h1 h2 => by
  have hk : k = 1 ∨ k = 2 ∨ k = 3 ∨ k = 4 := by omega
  rcases hk with rfl | rfl | rfl | rfl
  · simp [newt, List.range_succ, trs, tp, tr4, cpA, cpc4, co]
  · simp [newt, List.range_succ, trs, tp, tr4, rm4, cpA, cpc4, P2, co]
    grind
  · simp [newt, List.range_succ, trs, tp, tr4, rm4, cpA, cpc4, P2, P3, co]
    grind
  · simp [newt, List.range_succ, trs, tp, tr4, rm4, cpA, cpc4, P2, P3, D4, co]
    grind
/-- z times the first number less the number: its table -/
def subTab (n : Nat) (z : Int) (A : List (List Int)) : List (List Int) := (List.range n).map fun i => (List.range n).map fun j => (if i = j then z else 0) - co (A.getD i []) j
theorem value2 (z a b c d : Int) : ev (ownL 2 (cpA 2 [[a, b], [c, d]])) z = dz 2 (subTab 2 z [[a, b], [c, d]]) := by
  simp [subTab, List.range_succ, dz2, ownL, cpA, cpc2, D2, co, ev]
  grind
theorem value3 (z a b c d e f g h i : Int) : ev (ownL 3 (cpA 3 [[a, b, c], [d, e, f], [g, h, i]])) z = dz 3 (subTab 3 z [[a, b, c], [d, e, f], [g, h, i]]) := by
  simp [subTab, List.range_succ, dz3, ownL, cpA, cpc3, P2, D3, co, ev]
  grind
theorem value4 (z a b c d e f g h i j k' l m n o p : Int) : ev (ownL 4 (cpA 4 [[a, b, c, d], [e, f, g, h], [i, j, k', l], [m, n, o, p]])) z = dz 4 (subTab 4 z [[a, b, c, d], [e, f, g, h], [i, j, k', l], [m, n, o, p]]) := by
  simp [subTab, List.range_succ, dz4, ownL, cpA, cpc4, P2, P3, D4, co, ev]
  grind
def add0 (r : List Int) (p : Int) : List Int := (co r 0 + p) :: r.drop 1
def firstE (n : Nat) : List Int := 1 :: List.replicate (n - 1) 0
def hv (n : Nat) (A : List (List Int)) (c : Nat → Int) : Nat → List Int
  | 0 => firstE n
  | j + 1 => add0 (rowMul n (hv n A c j) A) (c (j + 1))
theorem nought2 (a b c d : Int) : hv 2 [[a, b], [c, d]] (cpA 2 [[a, b], [c, d]]) 2 = List.replicate 2 0 := by
  simp [hv, firstE, add0, rm2, cpA, cpc2, D2, co, List.replicate]
  grind
theorem nought3 (a b c d e f g h i : Int) : hv 3 [[a, b, c], [d, e, f], [g, h, i]] (cpA 3 [[a, b, c], [d, e, f], [g, h, i]]) 3 = List.replicate 3 0 := by
  simp [hv, firstE, add0, rm3, cpA, cpc3, P2, D3, co, List.replicate]
  grind
theorem nought4 (a b c d e f g h i j k' l m n o p : Int) : hv 4 [[a, b, c, d], [e, f, g, h], [i, j, k', l], [m, n, o, p]] (cpA 4 [[a, b, c, d], [e, f, g, h], [i, j, k', l], [m, n, o, p]]) 4 = List.replicate 4 0 := by
  simp [hv, firstE, add0, rm4, cpA, cpc4, P2, P3, D4, co, List.replicate]
  grind
end T

set_option maxRecDepth 100000
set_option maxHeartbeats 2000000
namespace T
open PySem PySem.Spec PyProof.Rows L2
/-! ### the own polynomial of any table of two to four rows -/
theorem loopF_nx {α ρ : Type} {f : Unit → α → M (Fl Unit ρ)} : ∀ (xs : List α), (∀ x ∈ xs, f () x = ok (Fl.nx ())) → loopF f () xs = ok (Fl.nx ())
  | [], _ => rfl
  | x :: xs, h => by
    show (f () x).bind _ = _
    rw [h x List.mem_cons_self, bind_ok]
    exact loopF_nx xs fun y hy => h y (List.mem_cons_of_mem _ hy)
theorem own_all {n : Nat} {A : List (List Int)} (h2 : 2 ≤ n) (h4 : n ≤ 4) (lA : A.length = n) (rA : ∀ r ∈ A, r.length = n) :
    (∀ k, 1 ≤ k → k ≤ n → newt (cpA n A) (trs n A) k = k * cpA n A k) ∧ (∀ z, ev (ownL n (cpA n A)) z = dz n (subTab n z A)) ∧ hv n A (cpA n A) n = List.replicate n 0 ∧ cpA n A 0 = 1 ∧ cpA n A n = (if n % 2 = 1 then -dz n A else dz n A) := by
  have hn : n = 2 ∨ n = 3 ∨ n = 4 := by omega
  rcases hn with rfl | rfl | rfl
  · obtain ⟨a0, a1, rfl⟩ := len2 lA
    obtain ⟨a, b, rfl⟩ := len2 (rA a0 (by simp))
    obtain ⟨c, d, rfl⟩ := len2 (rA a1 (by simp))
    exact ⟨newton2 a b c d, fun z => value2 z a b c d, nought2 a b c d, rfl, by rw [if_neg (by decide), dz2]; rfl⟩
  · obtain ⟨a0, a1, a2, rfl⟩ := len3 lA
    obtain ⟨u0, u1, u2, rfl⟩ := len3 (rA a0 (by simp))
    obtain ⟨v0, v1, v2, rfl⟩ := len3 (rA a1 (by simp))
    obtain ⟨w0, w1, w2, rfl⟩ := len3 (rA a2 (by simp))
    exact ⟨fun k => newton3 _ _ _ _ _ _ _ _ _ k, fun z => value3 z .., nought3 .., rfl, by rw [if_pos (by decide), dz3]; rfl⟩
  · obtain ⟨a0, a1, a2, a3, rfl⟩ := len4 lA
    obtain ⟨u0, u1, u2, u3, rfl⟩ := len4 (rA a0 (by simp))
    obtain ⟨v0, v1, v2, v3, rfl⟩ := len4 (rA a1 (by simp))
    obtain ⟨w0, w1, w2, w3, rfl⟩ := len4 (rA a2 (by simp))
    obtain ⟨z0, z1, z2, z3, rfl⟩ := len4 (rA a3 (by simp))
    exact ⟨fun k => newton4 _ _ _ _ _ _ _ _ _ _ _ _ _ _ _ _ k, fun z => value4 z .., nought4 .., rfl, by rw [if_neg (by decide), dz4]; rfl⟩
theorem cp_zero {n : Nat} (h2 : 2 ≤ n) (h4 : n ≤ 4) : ∀ k, 1 ≤ k → k ≤ n → cpA n (List.replicate n (List.replicate n 0)) k = 0 := fun k h1 hk => by
  have hn : n = 2 ∨ n = 3 ∨ n = 4 := by omega
  have hk' : k = 1 ∨ k = 2 ∨ k = 3 ∨ k = 4 := by omega
  rcases hn with rfl | rfl | rfl <;> rcases hk' with rfl | rfl | rfl | rfl <;> first | omega | decide
/-! ### the table of z less the number -/
theorem shiftP_co (k : Nat) (y : List Int) (t : Nat) : co (shiftP k y) t = if t < k then 0 else co y (t - k) := by
  induction k generalizing t with
  | zero => rw [if_neg (by omega)]; rfl
  | succ k ih =>
    rw [shiftP_succ]
    match t with
    | 0 => rfl
    | t + 1 =>
      show co (shiftP k y) t = _
      rw [ih]
      by_cases h : t < k
      · rw [if_pos h, if_pos (by omega)]
      · rw [if_neg h, if_neg (by omega), show t + 1 - (k + 1) = t - k by omega]
def apartBy (z : Int) (x : List Int) : List Int := (z - co x 0) :: (x.drop 1).map fun y => -y
theorem co_mapNeg (x : List Int) (t : Nat) : co (x.map fun y => -y) t = -co x t := by
  induction x generalizing t with
  | nil => rfl
  | cons a x ih =>
    match t with
    | 0 => rfl
    | t + 1 => exact ih t
theorem apartBy_co (z : Int) (x : List Int) (t : Nat) : co (apartBy z x) t = (if t = 0 then z else 0) - co x t := by
  unfold apartBy
  match t with
  | 0 => rfl
  | t + 1 =>
    show co ((x.drop 1).map fun y => -y) t = _
    rw [co_mapNeg, co_drop1, if_neg (by omega)]
    omega
theorem apartBy_len {z : Int} {x : List Int} {n : Nat} (hx : x.length = n) (h1 : 1 ≤ n) : (apartBy z x).length = n := by
  unfold apartBy
  rw [List.length_cons, List.length_map, List.length_drop]; omega
theorem apartBy_sm {z : Int} {x : List Int} {b : Nat} (hz : Sm b z) (hx : ∀ y ∈ x, Sm b y) : ∀ y ∈ apartBy z x, Sm (b + 1) y := sm_of_co fun t => by
  rw [apartBy_co, Int.sub_eq_add_neg]
  have h1 : Sm b (if t = 0 then z else 0) := by
    split
    · exact hz
    · exact Nat.zero_le _
  exact (h1.add (co_sm hx t).neg).mono (by omega)
theorem subTab_is {f x : List Int} {n : Nat} {A : List (List Int)} (z : Int) (hx : x.length = n) (hA : IsTab f x n A) : IsTab f (apartBy z x) n (subTab n z A) := by
  refine ⟨by unfold subTab; rw [List.length_map, List.length_range], fun i r hi => ?_⟩
  unfold subTab at hi
  rw [List.getElem?_map] at hi
  obtain ⟨j, hj, rfl⟩ := Option.map_eq_some_iff.mp hi
  have hin : i < n := by
    have := (List.getElem?_eq_some_iff.mp hj).1
    rwa [List.length_range] at this
  rw [List.getElem?_range hin] at hj
  have hji : i = j := Option.some.inj hj
  subst hji
  refine ⟨by rw [List.length_map, List.length_range], ?_⟩
  obtain ⟨l, c⟩ := hA.row hin
  refine (Cf.of (q := addP (scaleP z (shiftP i [1])) (scaleP (-1) (A.getD i []))) fun t => ?_).trans (((Cf.refl f (scaleP z (shiftP i [1]))).add (c.scale (-1))).trans (.of fun t => ?_))
  · rw [co_mapRange, addP_co, scaleP_co, scaleP_co, shiftP_co]
    by_cases ht : t < n
    · rw [if_pos ht]
      by_cases e : i = t
      · subst e
        rw [if_pos rfl, if_neg (by omega), Nat.sub_self]
        show _ = z * 1 + _
        omega
      · rw [if_neg e]
        by_cases e2 : t < i
        · rw [if_pos e2]; omega
        · rw [if_neg e2, co_out (xs := ([1] : List Int)) (by show 1 ≤ t - i; omega)]; omega
    · rw [if_neg ht, co_out (xs := A.getD i []) (by omega), if_neg (by omega), co_out (xs := ([1] : List Int)) (by show 1 ≤ t - i; omega)]
      omega
  · rw [addP_co, scaleP_co, scaleP_co, shiftP_co, shiftP_co, shiftP_co]
    by_cases e2 : t < i
    · rw [if_pos e2, if_pos e2, if_pos e2]; omega
    · rw [if_neg e2, if_neg e2, if_neg e2, apartBy_co]
      by_cases e : t - i = 0
      · rw [if_pos e, e]
        show z * 1 + _ = _
        omega
      · rw [if_neg e, co_out (xs := ([1] : List Int)) (by show 1 ≤ t - i; omega)]; omega
/-! ### a row with a number added to its first place, and Horner's way with numbers -/
theorem add0_len {r : List Int} {n : Nat} (p : Int) (hr : r.length = n) (h1 : 1 ≤ n) : (add0 r p).length = n := by
  unfold add0
  rw [List.length_cons, List.length_drop]; omega
theorem add0_sm {r : List Int} {p : Int} {b : Nat} (hr : ∀ x ∈ r, Sm b x) (hp : Sm b p) : ∀ x ∈ add0 r p, Sm (b + 1) x := fun x hx => by
  rcases List.mem_cons.mp hx with rfl | h
  · exact ((co_sm hr 0).add hp).mono (by omega)
  · exact (hr x (List.mem_of_mem_drop h)).mono (by omega)
theorem add0_ok {r : List Int} {n : Nat} (p : Int) (hr : r.length = n) (h1 : 1 ≤ n) (h4 : n ≤ 1000) : (M.bind (M.bind (M.bind (pget r 0) fun u10 => ok (u10 + p)) fun u11 => psz [u11]) fun u12 => (pcat u12 (cutL r (some 1) none))) = ok (add0 r p) := by
  rw [show pget r 0 = ok (co r 0) from pget_co (t := 0) (by omega), bind_ok, bind_ok, psz_ok (by simp), bind_ok, show cutL r (some 1) none = r.drop 1 from cutL_from 1 (by omega), pcat_ok (by rw [List.length_drop]; simp; omega)]
  rfl
theorem firstE_len {n : Nat} (h : 1 ≤ n) : (firstE n).length = n := by unfold firstE; simp; omega
theorem firstE_sm (n : Nat) : ∀ x ∈ firstE n, Sm 1 x := fun x hx => by
  unfold firstE at hx
  rcases List.mem_cons.mp hx with rfl | h
  · exact Sm.of (A := 1) (by decide) (by decide +kernel)
  · rw [List.eq_of_mem_replicate h]; exact Nat.zero_le _
theorem hv_ok {f x : List Int} {n b : Nat} {A : List (List Int)} {c : Nat → Int} (hf : f.length = n + 1) (h1 : co f n = 1) (hx : x.length = n) (hn : 1 ≤ n) (hn4 : n ≤ 4) (ha : ∀ x ∈ f, Sm 9 x) (hb : ∀ z ∈ x, Sm b z) (hb2 : b ≤ 1000) (hA : IsTab f x n A) (hc : ∀ k, k ≤ n → Sm 20000 (c k)) :
    ∀ k, k ≤ n → (hv n A c k).length = n ∧ ∀ z ∈ hv n A c k, Sm ((k + 1) * 21100) z
  | 0, _ => ⟨firstE_len hn, fun z hz => (firstE_sm n z hz).mono (by omega)⟩
  | k + 1, hk => by
    obtain ⟨l, s⟩ := hv_ok hf h1 hx hn hn4 ha hb hb2 hA hc k (by omega)
    have h3 : (k + 1) * 21100 ≤ 4 * 21100 := Nat.mul_le_mul_right _ (by omega)
    have p := (prod_row hf h1 hx l hn hn4 ha hb s (by omega) hA).2.2
    refine ⟨add0_len _ (rowMul_len ..) hn, fun z hz => (add0_sm (b := (k + 1) * 21100 + b + 50) p ((hc (k + 1) hk).mono (by omega)) z hz).mono ?_⟩
    rw [Nat.succ_mul (k + 1)]
    omega
theorem ownL_len (n : Nat) (c : Nat → Int) : (ownL n c).length = n + 1 := by unfold ownL; rw [List.length_reverse, List.length_map, List.length_range]
theorem ownL_co (n : Nat) (c : Nat → Int) {t : Nat} (ht : t ≤ n) : co (ownL n c) t = c (n - t) := by
  refine co_some ?_
  unfold ownL
  rw [List.getElem?_reverse (by rw [List.length_map, List.length_range]; omega), List.getElem?_map, List.length_map, List.length_range, List.getElem?_range (by omega), show n + 1 - 1 - t = n - t by omega]
  rfl
theorem ownL_sm {n : Nat} {c : Nat → Int} {B : Nat} (hc : ∀ k, k ≤ n → Sm B (c k)) : ∀ x ∈ ownL n c, Sm B x := fun x hx => by
  unfold ownL at hx
  obtain ⟨k, hk, rfl⟩ := List.mem_map.mp (List.mem_reverse.mp hx)
  exact hc k (by have := List.mem_range.mp hk; omega)
end T

set_option maxRecDepth 100000
set_option maxHeartbeats 2000000
namespace T
open PySem PySem.Spec PyProof.Rows L2
/-! ### own polynomial, mate, and a number put into a polynomial -/
noncomputable def m_own (ring1 : (Option Rg)) (x2 : (List Int)) : M (List Int) :=
  (M.bind (M.bind (unO ring1) fun u3 => ok u3.1) fun u4 => (m_poly_own u4 x2))
noncomputable def m_mate (ring1 : (Option Rg)) (x2 : (List Int)) : M (List Int) :=
  (M.bind (M.bind (M.bind (unO ring1) fun u4 => ok u4.1) fun u5 => (m_poly_own u5 x2)) fun places3 => (M.bind (M.bind (unO ring1) fun u7 => ok u7.2.1) fun many6 => (M.bind (M.bind (prep [0] (many6 - 1)) fun u9 => (pcat [1] u9)) fun found8 => (M.bind (M.bind (prangeD (many6 - 1) 0) fun xs => loopM (fun (found10 : (List Int)) k11 => (M.bind (M.bind (M.bind (unO ring1) fun u13 => ok u13.1) fun u14 => (m_product_by u14 found10 x2)) fun found12 => (M.bind (M.bind (M.bind (M.bind (pget found12 0) fun u16 => M.bind (pget places3 k11) fun u17 => ok (u16 + u17)) fun u18 => psz [u18]) fun u19 => (pcat u19 (cutL found12 (some 1) none))) fun found15 => ok (found15)))) (found8) xs) fun found20 => (M.bind (M.bind (ok (decide ((many6 % 2) = 0))) fun z21 => if z21 = true then (M.bind (mapC (fun place23 => (ok (-place23))) found20) fun found22 => ok (found22)) else ok (found20)) fun found24 => (ok found24))))))
noncomputable def m_l_into (poly_here1 : (List Int)) (places2 : (List Int)) (x3 : (List Int)) : M (List Int) :=
  (M.bind (ok (List.length x3 : Int)) fun many4 => (M.bind (prep [0] many4) fun found5 => (M.bind (M.bind (ok (List.reverse places2)) fun xs => loopM (fun (found6 : (List Int)) place7 => (M.bind (m_l_times poly_here1 found6 x3) fun found8 => (M.bind (M.bind (M.bind (M.bind (pget found8 0) fun u10 => ok (u10 + place7)) fun u11 => psz [u11]) fun u12 => (pcat u12 (cutL found8 (some 1) none))) fun found9 => ok (found9)))) (found5) xs) fun found13 => (ok found13))))
theorem lin_neg : ∀ (v : List Int) (A : List (List Int)) (t : Nat), co (lin (v.map fun y => -y) A) t = -co (lin v A) t
  | [], _, _ => rfl
  | _ :: _, [], _ => rfl
  | a :: v, r :: A, t => by
    show co (addP (scaleP (-a) r) (lin (v.map fun y => -y) A)) t = -co (addP (scaleP a r) (lin v A)) t
    rw [addP_co, addP_co, scaleP_co, scaleP_co, lin_neg v A t, Int.neg_mul]
    omega
theorem rowMul_neg (n : Nat) (v : List Int) (A : List (List Int)) : rowMul n (v.map fun y => -y) A = (rowMul n v A).map fun y => -y := by
  unfold rowMul
  rw [List.map_map]
  apply List.map_congr_left
  intro t _
  exact lin_neg v A t
theorem add0_inv {q : List Int} {p : Int} {n : Nat} (h1 : 1 ≤ n) (hq : q.length = n) (h : add0 q p = List.replicate n 0) : q = (-p) :: List.replicate (n - 1) 0 := by
  match q, n, h1, hq with
  | a :: q, n + 1, _, hq =>
    unfold add0 at h
    rw [List.replicate_succ] at h
    have h0 : co (a :: q) 0 + p = 0 := (List.cons.inj h).1
    have h2 : q = List.replicate n 0 := (List.cons.inj h).2
    have h3 : a + p = 0 := h0
    rw [h2, show a = -p by omega]
    rfl
theorem negZero (n : Nat) : (List.replicate n (0 : Int)).map (fun y => -y) = List.replicate n 0 := by
  rw [List.map_replicate]; rfl
def mateL (n : Nat) (A : List (List Int)) : List Int := if n % 2 = 0 then (hv n A (cpA n A) (n - 1)).map fun y => -y else hv n A (cpA n A) (n - 1)
theorem mate_mul {n : Nat} {A : List (List Int)} (h2 : 2 ≤ n) (h4 : n ≤ 4) (lA : A.length = n) (rA : ∀ r ∈ A, r.length = n) : rowMul n (mateL n A) A = dz n A :: List.replicate (n - 1) 0 := by
  obtain ⟨_, _, hz, _, ht⟩ := own_all h2 h4 lA rA
  have e : hv n A (cpA n A) n = add0 (rowMul n (hv n A (cpA n A) (n - 1)) A) (cpA n A n) := by
    obtain ⟨m, rfl⟩ : ∃ m, n = m + 1 := ⟨n - 1, by omega⟩
    rfl
  rw [e] at hz
  have hq := add0_inv (by omega) (rowMul_len n _ A) hz
  unfold mateL
  by_cases hn : n % 2 = 0
  · rw [if_pos hn, rowMul_neg, hq, List.map_cons, negZero, ht, if_neg (by omega)]
    congr 1
    omega
  · rw [if_neg hn, hq, ht, if_pos (by omega)]
    congr 1
    omega
theorem own_is {r : Rg} {x : List Int} {n b : Nat} {A : List (List Int)} (hf : r.1.length = n + 1) (h1 : co r.1 n = 1) (hx : x.length = n) (h2 : 2 ≤ n) (hn4 : n ≤ 4) (ha : ∀ x ∈ r.1, Sm 9 x) (hb : ∀ z ∈ x, Sm b z) (hb2 : b ≤ 1000) (hA : IsTab r.1 x n A) :
    m_own (some r) x = ok (ownL n (cpA n A)) ∧ m_poly_own r.1 x = ok (ownL n (cpA n A)) ∧ ∀ k, k ≤ n → Sm 20000 (cpA n A k) := by
  obtain ⟨hN, _, _, h0, _⟩ := own_all h2 hn4 hA.1 hA.mem
  obtain ⟨e, s⟩ := own_ok hf h1 hx (by omega) hn4 ha hb hb2 hA h0 hN
  refine ⟨?_, e, s⟩
  unfold m_own
  rw [unO_some, bind_ok, bind_ok, e]
theorem mate_ok {r : Rg} {x : List Int} {n b : Nat} {A : List (List Int)} (hd : r.2.1 = (n : Int)) (hf : r.1.length = n + 1) (h1 : co r.1 n = 1) (hx : x.length = n) (h2 : 2 ≤ n) (hn4 : n ≤ 4) (ha : ∀ x ∈ r.1, Sm 9 x) (hb : ∀ z ∈ x, Sm b z) (hb2 : b ≤ 1000) (hA : IsTab r.1 x n A) :
    m_mate (some r) x = ok (mateL n A) ∧ (mateL n A).length = n ∧ ∀ z ∈ mateL n A, Sm 84400 z := by
  obtain ⟨_, e, s⟩ := own_is hf h1 hx h2 hn4 ha hb hb2 hA
  have hv' := hv_ok hf h1 hx (by omega) hn4 ha hb hb2 hA s
  obtain ⟨l3, s3⟩ := hv' (n - 1) (by omega)
  have h3 : (n - 1 + 1) * 21100 ≤ 4 * 21100 := Nat.mul_le_mul_right _ (by omega)
  have s4 : ∀ z ∈ hv n A (cpA n A) (n - 1), Sm 84400 z := fun z hz => (s3 z hz).mono (by omega)
  refine ⟨?_, ?_, ?_⟩
  · unfold m_mate
    rw [unO_some, bind_ok, bind_ok, e, bind_ok, bind_ok, bind_ok, hd, show (n : Int) - 1 = ((n - 1 : Nat) : Int) by omega, prep0 (by omega), bind_ok, pcat_ok (by simp; omega), bind_ok, prangeD_ok (by omega) (by omega), bind_ok]
    have L := Tot.loopMi (f := fun (found10 : (List Int)) k11 => (M.bind (M.bind (ok r.1) fun u14 => (m_product_by u14 found10 x)) fun found12 => (M.bind (M.bind (M.bind (M.bind (pget found12 0) fun u16 => M.bind (pget (ownL n (cpA n A)) k11) fun u17 => ok (u16 + u17)) fun u18 => psz [u18]) fun u19 => (pcat u19 (cutL found12 (some 1) none))) fun found15 => ok (found15)))) (xs := rangeD ((n - 1 : Nat) : Int) (((n - 1 : Nat) : Int) - 0).toNat) (c := [1] ++ List.replicate (n - 1) 0)
      (fun i (w : List Int) => w = hv n A (cpA n A) i) rfl (fun i w k hk hw => by
        obtain ⟨k1, k2⟩ := rangeD_mem hk
        obtain ⟨l, sv⟩ := hv' i (by omega)
        have h3 : (i + 1) * 21100 ≤ 4 * 21100 := Nat.mul_le_mul_right _ (by omega)
        have p := (prod_row hf h1 hx l (by omega) hn4 ha hb sv (by omega) hA).1
        rw [hw, bind_ok, p, bind_ok]
        have ek : pget (ownL n (cpA n A)) k = ok (cpA n A (i + 1)) := by
          rw [show k = ((n - 1 - i : Nat) : Int) by omega, pget_co (by rw [ownL_len]; omega), ownL_co n _ (by omega), show n - (n - 1 - i) = i + 1 by omega]
        have e0 : (M.bind (M.bind (M.bind (pget (rowMul n (hv n A (cpA n A) i) A) 0) fun u16 => M.bind (pget (ownL n (cpA n A)) k) fun u17 => ok (u16 + u17)) fun u18 => psz [u18]) fun u19 => (pcat u19 (cutL (rowMul n (hv n A (cpA n A) i) A) (some 1) none))) = ok (add0 (rowMul n (hv n A (cpA n A) i) A) (cpA n A (i + 1))) := by
          have := add0_ok (cpA n A (i + 1)) (rowMul_len n (hv n A (cpA n A) i) A) (by omega) (by omega)
          rw [ek]
          exact this
        rw [e0, bind_ok]
        exact .ok rfl)
    obtain ⟨w, ew, hw⟩ := L
    have hl : (rangeD ((n - 1 : Nat) : Int) (((n - 1 : Nat) : Int) - 0).toNat).length = n - 1 := by
      unfold rangeD
      rw [List.length_map, List.length_range]; omega
    rw [hl] at hw
    rw [ew, bind_ok, hw, bind_ok]
    unfold mateL
    by_cases hn : n % 2 = 0
    · rw [if_pos (show decide ((n : Int) % 2 = 0) = true from decide_eq_true (by omega)), if_pos hn, mapC_ok (g := fun y : Int => -y) (fun _ _ => rfl) (by rw [sizeLineE, l3]; omega), bind_ok, bind_ok]
    · rw [if_neg (show ¬ decide ((n : Int) % 2 = 0) = true by simp; omega), if_neg hn, bind_ok]
  · unfold mateL
    split
    · rw [List.length_map]; exact l3
    · exact l3
  · unfold mateL
    split
    · intro z hz
      obtain ⟨y, hy, rfl⟩ := List.mem_map.mp hz
      exact (s4 y hy).neg
    · exact s4
theorem into_ok {f x : List Int} {n b : Nat} {A : List (List Int)} {c : Nat → Int} (hf : f.length = n + 1) (h1 : co f n = 1) (hx : x.length = n) (hn : 1 ≤ n) (hn4 : n ≤ 4) (ha : ∀ x ∈ f, Sm 9 x) (hb : ∀ z ∈ x, Sm b z) (hb2 : b ≤ 1000) (hA : IsTab f x n A) (h0 : c 0 = 1) (hc : ∀ k, k ≤ n → Sm 20000 (c k)) :
    m_l_into f (ownL n c) x = ok (hv n A c n) := by
  have hv' := hv_ok hf h1 hx hn hn4 ha hb hb2 hA hc
  unfold m_l_into
  rw [bind_ok, hx, prep0 (by omega), bind_ok, bind_ok]
  have L := Tot.loopMi (f := fun (found6 : (List Int)) place7 => (M.bind (m_l_times f found6 x) fun found8 => (M.bind (M.bind (M.bind (M.bind (pget found8 0) fun u10 => ok (u10 + place7)) fun u11 => psz [u11]) fun u12 => (pcat u12 (cutL found8 (some 1) none))) fun found9 => ok (found9)))) (xs := (ownL n c).reverse) (c := List.replicate n 0)
    (fun i (w : List Int) => w = match i with | 0 => List.replicate n 0 | i + 1 => hv n A c i) rfl (fun i w p hp hw => by
      unfold ownL at hp
      rw [List.reverse_reverse, List.getElem?_map] at hp
      obtain ⟨j, hj, rfl⟩ := Option.map_eq_some_iff.mp hp
      have hin : i < n + 1 := by
        have := (List.getElem?_eq_some_iff.mp hj).1
        rwa [List.length_range] at this
      rw [List.getElem?_range hin] at hj
      have hji : i = j := Option.some.inj hj
      subst hji
      match i, hw with
      | 0, hw =>
        have hw' : w = List.replicate n 0 := hw
        have l0 : (List.replicate n (0 : Int)).length = n := by simp
        have s0 : ∀ z ∈ List.replicate n (0 : Int), Sm 0 z := fun z hz => by rw [List.eq_of_mem_replicate hz]; exact Nat.zero_le _
        have p := (prod_row hf h1 hx l0 hn hn4 ha hb s0 (by omega) hA).2.1
        have hz : rowMul n (List.replicate n 0) A = List.replicate n 0 := by
          refine Cf.eq hf h1 (rowMul_len ..) l0 ((rowMul_cf hA l0).trans (.of fun t => ?_))
          rw [mulP_zeros]
          exact (co_rep0 n t).symm
        rw [hw', p, bind_ok, add0_ok (c 0) (rowMul_len ..) hn (by omega), bind_ok, hz, h0]
        refine .ok ?_
        show add0 (List.replicate n 0) 1 = firstE n
        match n, hn with
        | m + 1, _ => rfl
      | i + 1, hw =>
        have hw' : w = hv n A c i := hw
        obtain ⟨l, sv⟩ := hv' i (by omega)
        have h3 : (i + 1) * 21100 ≤ 4 * 21100 := Nat.mul_le_mul_right _ (by omega)
        have p := (prod_row hf h1 hx l hn hn4 ha hb sv (by omega) hA).2.1
        rw [hw', p, bind_ok, add0_ok (c (i + 1)) (rowMul_len ..) hn (by omega), bind_ok]
        exact .ok rfl)
  obtain ⟨w, ew, hw⟩ := L
  rw [List.length_reverse, ownL_len] at hw
  rw [ew, bind_ok, hw]
end T

set_option maxRecDepth 100000
set_option maxHeartbeats 2000000
namespace T
open PySem PySem.Spec PyProof.Rows L2
/-! ### stair tables: the rest of a row -/
noncomputable def m_rest (table1 : (List (List Int))) (row2 : (List Int)) : M (List Int) :=
  (M.bind (ok row2) fun left3 => (M.bind (M.bind (prangeD ((List.length table1 : Int) - 1) (-1)) fun xs => loopM (fun (left4 : (List Int)) i5 => (M.bind (M.bind (pget left4 i5) fun u8 => M.bind (M.bind (pget table1 i5) fun u7 => (pget u7 i5)) fun u9 => (pdiv u8 u9)) fun often6 => (M.bind (ok ((!decide (often6 = 0)))) fun z10 => if z10 = true then (M.bind (M.bind (prangeI (List.length left4 : Int)) fun xs => mapC (fun j12 => (M.bind (pget left4 j12) fun u15 => M.bind (M.bind (M.bind (pget table1 i5) fun u13 => (pget u13 j12)) fun u14 => (pmul often6 u14)) fun u16 => ok (u15 - u16))) xs) fun left11 => ok (left11)) else ok (left4)))) (left3) xs) fun left17 => (ok left17)))
noncomputable def m_l_held (table1 : (List (List Int))) (row_here2 : (List Int)) : M (List Int) :=
  (M.bind (ok row_here2) fun left3 => (M.bind (M.bind (prangeD ((List.length left3 : Int) - 1) (-1)) fun xs => loopM (fun (left4 : (List Int)) k5 => (M.bind (M.bind (pget left4 k5) fun u8 => M.bind (M.bind (pget table1 k5) fun u7 => (pget u7 k5)) fun u9 => (pdiv u8 u9)) fun part6 => (M.bind (M.bind (prangeI (k5 + 1)) fun xs => loopM (fun (left10 : (List Int)) j11 => (M.bind (M.bind (M.bind (pget left10 j11) fun u14 => M.bind (M.bind (M.bind (pget table1 k5) fun u12 => (pget u12 j11)) fun u13 => (pmul part6 u13)) fun u15 => ok (u14 - u15)) fun u17 => (pset left10 j11 u17)) fun left16 => ok (left16))) (left4) xs) fun left18 => ok (left18)))) (left3) xs) fun left19 => ok left19))
structure Stair (b k : Nat) (A : List (List Int)) : Prop where
  sq : Sq b k A
  up : ∀ i j, i < k → i < j → co (A.getD i []) j = 0
  pos : ∀ i, i < k → 0 < co (A.getD i []) i
theorem Stair.row {b k : Nat} {A : List (List Int)} (h : Stair b k A) {i : Nat} (hi : i < k) : (A.getD i []).length = k ∧ ∀ x ∈ A.getD i [], Sm b x := h.sq.2 _ (getD_mem (by rw [h.sq.1]; exact hi))
theorem Stair.get {b k : Nat} {A : List (List Int)} (h : Stair b k A) {i : Nat} (hi : i < k) : pget A (i : Int) = ok (A.getD i []) := pget_getD (by rw [h.sq.1]; exact hi)
theorem ediv_abs {a d : Int} (hd : 0 < d) : (a / d).natAbs ≤ a.natAbs := by
  have h1 : d * (a / d) ≤ a := Int.mul_ediv_self_le (by omega)
  have h2 : a < d * (a / d) + d := Int.lt_mul_ediv_self_add hd
  generalize a / d = q at h1 h2
  by_cases hq : 0 ≤ q
  · have : 1 * q ≤ d * q := Int.mul_le_mul_of_nonneg_right (by omega) hq
    omega
  · have : d * (q + 1) ≤ 1 * (q + 1) := Int.mul_le_mul_of_nonpos_right (by omega) (by omega)
    have e : d * (q + 1) = d * q + d := by rw [Int.mul_add, Int.mul_one]
    omega
def quo (A : List (List Int)) (L : List Int) (i : Nat) : Int := co L i / co (A.getD i []) i
def sub1 (k : Nat) (A : List (List Int)) (L : List Int) (i : Nat) : List Int := (List.range k).map fun j => co L j - quo A L i * co (A.getD i []) j
def lst (k : Nat) (A : List (List Int)) (row : List Int) : Nat → List Int
  | 0 => row
  | s + 1 => sub1 k A (lst k A row s) (k - 1 - s)
theorem quo_sm {b k c : Nat} {A : List (List Int)} {L : List Int} (hA : Stair b k A) {i : Nat} (hi : i < k) (hL : ∀ x ∈ L, Sm c x) : Sm c (quo A L i) :=
  Nat.le_trans (log2_le (ediv_abs (hA.pos i hi))) (co_sm hL i)
theorem sub1_sm {b k c : Nat} {A : List (List Int)} {L : List Int} (hA : Stair b k A) {i : Nat} (hi : i < k) (hL : ∀ x ∈ L, Sm c x) : ∀ x ∈ sub1 k A L i, Sm (c + b + 2) x := fun x hx => by
  obtain ⟨j, _, rfl⟩ := List.mem_map.mp hx
  rw [Int.sub_eq_add_neg]
  exact ((co_sm hL j).add ((quo_sm hA hi hL).mul (co_sm (hA.row hi).2 j)).neg).mono (by omega)
theorem lst_len {k : Nat} {A : List (List Int)} {row : List Int} (hr : row.length = k) : ∀ s, (lst k A row s).length = k
  | 0 => hr
  | s + 1 => by show (List.map _ _).length = k; rw [List.length_map, List.length_range]
theorem lst_sm {b k c : Nat} {A : List (List Int)} {row : List Int} (hA : Stair b k A) (hr : ∀ x ∈ row, Sm c x) : ∀ s, s ≤ k → ∀ x ∈ lst k A row s, Sm (c + s * (b + 2)) x
  | 0, _ => fun x hx => (hr x hx).mono (by omega)
  | s + 1, hs => fun x hx => (sub1_sm hA (by omega) (lst_sm hA hr s (by omega)) x hx).mono (by rw [Nat.succ_mul]; omega)
theorem lst_co {k : Nat} {A : List (List Int)} {row : List Int} (s : Nat) {j : Nat} (hj : j < k) : co (lst k A row (s + 1)) j = co (lst k A row s) j - quo A (lst k A row s) (k - 1 - s) * co (A.getD (k - 1 - s) []) j := by
  show co ((List.range k).map _) j = _
  rw [co_mapRange, if_pos hj]
theorem lst_keep {b k : Nat} {A : List (List Int)} {row : List Int} (hA : Stair b k A) {s j : Nat} (hj : j < k) (hjs : k - s ≤ j) : ∀ d, s + d ≤ k → co (lst k A row (s + d)) j = co (lst k A row s) j
  | 0, _ => rfl
  | d + 1, hd => by
    rw [← Nat.add_assoc, lst_co (s + d) hj, hA.up _ _ (by omega) (by omega), lst_keep hA hj hjs d (by omega)]
    omega
theorem lst_done {b k : Nat} {A : List (List Int)} {row : List Int} (hA : Stair b k A) {s j : Nat} (hs : s ≤ k) (hj : j < k) (hjs : k - s ≤ j) : 0 ≤ co (lst k A row s) j ∧ co (lst k A row s) j < co (A.getD j []) j := by
  have hd := hA.pos j hj
  have e := lst_keep hA (s := k - j) (row := row) hj (by omega) (s - (k - j)) (by omega)
  rw [show k - j + (s - (k - j)) = s by omega] at e
  rw [e, show k - j = (k - j - 1) + 1 by omega, lst_co _ hj, show k - 1 - (k - j - 1) = j by omega]
  unfold quo
  have h1 := Int.emod_nonneg (co (lst k A row (k - j - 1)) j) (show co (A.getD j []) j ≠ 0 by omega)
  have h2 := Int.emod_lt_of_pos (co (lst k A row (k - j - 1)) j) hd
  have h3 := Int.emod_def (co (lst k A row (k - j - 1)) j) (co (A.getD j []) j)
  rw [Int.mul_comm] at h3
  omega
theorem map_rangeL {α : Type} (k : Nat) (g : Int → α) : (rangeL 0 k).map g = (List.range k).map fun i : Nat => g (i : Int) := by
  unfold rangeL
  rw [List.map_map]
  apply List.map_congr_left
  intro i _
  show g (0 + (i : Int)) = g (i : Int)
  congr 1
  omega
theorem co_list {L : List Int} {k : Nat} (h : L.length = k) : (List.range k).map (co L) = L := by
  apply List.ext_getElem (by rw [List.length_map, List.length_range, h])
  intro i h1 h2
  rw [List.getElem_map, List.getElem_range, co_get h2]
theorem rest_ok {b k c : Nat} {A : List (List Int)} {row : List Int} (hA : Stair b k A) (hk : 1 ≤ k) (hk2 : k ≤ 100) (hb : b ≤ 1000) (hc : c ≤ 10000) (hr : row.length = k) (hs : ∀ x ∈ row, Sm c x) : m_rest A row = ok (lst k A row k) := by
  have hB : ∀ i, i ≤ k → i * (b + 2) ≤ 100 * 1002 := fun i hi => Nat.mul_le_mul (by omega) (by omega)
  unfold m_rest
  rw [bind_ok, hA.sq.1, prangeD_ok (by omega) (by omega), bind_ok]
  have L := Tot.loopMi (f := fun (left4 : (List Int)) i5 => (M.bind (M.bind (pget left4 i5) fun u8 => M.bind (M.bind (pget A i5) fun u7 => (pget u7 i5)) fun u9 => (pdiv u8 u9)) fun often6 => (M.bind (ok ((!decide (often6 = 0)))) fun z10 => if z10 = true then (M.bind (M.bind (prangeI (List.length left4 : Int)) fun xs => mapC (fun j12 => (M.bind (pget left4 j12) fun u15 => M.bind (M.bind (M.bind (pget A i5) fun u13 => (pget u13 j12)) fun u14 => (pmul often6 u14)) fun u16 => ok (u15 - u16))) xs) fun left11 => ok (left11)) else ok (left4)))) (xs := rangeD ((k : Int) - 1) (((k : Int) - 1) - (-1)).toNat) (c := row)
    (fun i (w : List Int) => w = lst k A row i) rfl (fun i w x hx hw => by
      obtain ⟨x1, x2⟩ := rangeD_mem hx
      have hx' : x = ((k - 1 - i : Nat) : Int) := by omega
      have hik : k - 1 - i < k := by omega
      have hl := lst_len (k := k) (A := A) hr i
      have hsm := lst_sm hA hs i (by omega)
      have hBi := hB i (by omega)
      have hd := hA.pos _ hik
      have hrow := hA.row hik
      rw [hx', hw, pget_co (by omega), bind_ok, hA.get hik, bind_ok, pget_co (by omega), bind_ok, pdiv_ok (by omega) (by have := (co_sm hrow.2 (k - 1 - i)); unfold Sm at this; omega), Int.fdiv_eq_ediv_of_nonneg _ (by omega), bind_ok, bind_ok]
      have hq : co (lst k A row i) (k - 1 - i) / co (A.getD (k - 1 - i) []) (k - 1 - i) = quo A (lst k A row i) (k - 1 - i) := rfl
      rw [hq]
      by_cases h0 : quo A (lst k A row i) (k - 1 - i) = 0
      · rw [h0, if_neg (by decide)]
        refine .ok ?_
        show _ = sub1 k A (lst k A row i) (k - 1 - i)
        unfold sub1
        rw [h0]
        have : (List.range k).map (fun j => co (lst k A row i) j - 0 * co (A.getD (k - 1 - i) []) j) = (List.range k).map (co (lst k A row i)) := List.map_congr_left fun j _ => by rw [Int.zero_mul]; omega
        rw [this, co_list hl]
      · rw [if_pos (by simpa using h0), hl, pr_nat (by omega), bind_ok, mapC_ok (g := fun j : Int => co (lst k A row i) j.toNat - quo A (lst k A row i) (k - 1 - i) * co (A.getD (k - 1 - i) []) j.toNat) (fun j hj => by
          obtain ⟨j', hj'⟩ := List.getElem?_of_mem hj
          obtain ⟨rfl, hjk⟩ := range_get hj'
          rw [pget_co (by omega), bind_ok, bind_ok, pget_co (by omega), bind_ok, mul_sm (quo_sm hA hik hsm) (hrow.2 _ (co_mem (by omega))) (by omega), bind_ok, Int.toNat_natCast]) (by rw [sizeLineE, rangeL_len]; omega), bind_ok]
        refine .ok ?_
        rw [map_rangeL]
        rfl)
  obtain ⟨w, ew, hw⟩ := L
  have hl : (rangeD ((k : Int) - 1) (((k : Int) - 1) - (-1)).toNat).length = k := by
    unfold rangeD
    rw [List.length_map, List.length_range]; omega
  rw [hl] at hw
  rw [ew, bind_ok, hw]
theorem rest_again {b k : Nat} {A : List (List Int)} {r : List Int} (hA : Stair b k A) (hl : r.length = k) (h : ∀ j, j < k → 0 ≤ co r j ∧ co r j < co (A.getD j []) j) : ∀ s, s ≤ k → lst k A r s = r
  | 0, _ => rfl
  | s + 1, hs => by
    show sub1 k A (lst k A r s) (k - 1 - s) = r
    rw [rest_again hA hl h s (by omega)]
    have h0 : quo A r (k - 1 - s) = 0 := Int.ediv_eq_zero_of_lt (h _ (by omega)).1 (h _ (by omega)).2
    unfold sub1
    rw [h0]
    have : (List.range k).map (fun j => co r j - 0 * co (A.getD (k - 1 - s) []) j) = (List.range k).map (co r) := List.map_congr_left fun j _ => by rw [Int.zero_mul]; omega
    rw [this, co_list hl]
theorem held_ok {b k c : Nat} {A : List (List Int)} {row D : List Int} (hA : Stair b k A) (hk : 1 ≤ k) (hk2 : k ≤ 100) (hb : b ≤ 1000) (hc : c ≤ 10000) (hr : row.length = k) (hs : ∀ x ∈ row, Sm c x) (hD : D.length = k) (hDc : ∀ t, co D t = co row t - co (lst k A row k) t) : m_l_held A D = ok (List.replicate k 0) := by
  have hB : ∀ i, i ≤ k → i * (b + 2) ≤ 100 * 1002 := fun i hi => Nat.mul_le_mul (by omega) (by omega)
  unfold m_l_held
  rw [bind_ok, hD, prangeD_ok (by omega) (by omega), bind_ok]
  have L := Tot.loopMi (f := fun (left4 : (List Int)) k5 => (M.bind (M.bind (pget left4 k5) fun u8 => M.bind (M.bind (pget A k5) fun u7 => (pget u7 k5)) fun u9 => (pdiv u8 u9)) fun part6 => (M.bind (M.bind (prangeI (k5 + 1)) fun xs => loopM (fun (left10 : (List Int)) j11 => (M.bind (M.bind (M.bind (pget left10 j11) fun u14 => M.bind (M.bind (M.bind (pget A k5) fun u12 => (pget u12 j11)) fun u13 => (pmul part6 u13)) fun u15 => ok (u14 - u15)) fun u17 => (pset left10 j11 u17)) fun left16 => ok (left16))) (left4) xs) fun left18 => ok (left18)))) (xs := rangeD ((k : Int) - 1) (((k : Int) - 1) - (-1)).toNat) (c := D)
    (fun i (w : List Int) => w.length = k ∧ ∀ t, co w t = co (lst k A row i) t - co (lst k A row k) t) ⟨hD, hDc⟩ (fun i w x hx ⟨lw, cw⟩ => by
      obtain ⟨x1, x2⟩ := rangeD_mem hx
      have hx' : x = ((k - 1 - i : Nat) : Int) := by omega
      have hik : k - 1 - i < k := by omega
      have hsm := lst_sm hA hs i (by omega)
      have hBi := hB i (by omega)
      have hd := hA.pos _ hik
      have hrow := hA.row hik
      have hkeep := lst_keep hA (row := row) (s := i + 1) hik (by omega) (k - (i + 1)) (by omega)
      rw [show i + 1 + (k - (i + 1)) = k by omega, lst_co i hik] at hkeep
      have hpart : co w (k - 1 - i) / co (A.getD (k - 1 - i) []) (k - 1 - i) = quo A (lst k A row i) (k - 1 - i) := by
        rw [cw, hkeep, show ∀ a b : Int, a - (a - b) = b from fun a b => by omega, Int.mul_ediv_cancel _ (by omega)]
      rw [hx', pget_co (by omega), bind_ok, hA.get hik, bind_ok, pget_co (by omega), bind_ok, pdiv_ok (by omega) (by have := (co_sm hrow.2 (k - 1 - i)); unfold Sm at this; omega), Int.fdiv_eq_ediv_of_nonneg _ (by omega), bind_ok, hpart, show ((k - 1 - i : Nat) : Int) + 1 = ((k - 1 - i + 1 : Nat) : Int) by omega, pr_nat (by omega), bind_ok]
      obtain ⟨w', e', l', c'⟩ := addInto2 (N := k) (i := 0) (n := k - 1 - i + 1) (s := fun j => -(quo A (lst k A row i) (k - 1 - i) * co (A.getD (k - 1 - i) []) j)) (step := fun (left10 : (List Int)) j11 => (M.bind (M.bind (M.bind (pget left10 j11) fun u14 => M.bind (M.bind (M.bind (ok (A.getD (k - 1 - i) [])) fun u12 => (pget u12 j11)) fun u13 => (pmul (quo A (lst k A row i) (k - 1 - i)) u13)) fun u15 => ok (u14 - u15)) fun u17 => (pset left10 j11 u17)) fun left16 => ok (left16))) (L := w) lw (by omega) (fun cc j hcc hj _ => by
        rw [pget_co (by omega), bind_ok, bind_ok, pget_co (by omega), bind_ok, mul_sm (quo_sm hA hik hsm) (hrow.2 _ (co_mem (by omega))) (by omega), bind_ok, bind_ok, pset_nat (by omega), bind_ok, Nat.zero_add, Int.sub_eq_add_neg])
      rw [e', bind_ok]
      refine .ok ⟨l', fun t => ?_⟩
      rw [c', cw]
      by_cases ht : t < k
      · rw [lst_co i ht]
        by_cases h2 : t < 0 + (k - 1 - i + 1)
        · rw [if_pos ⟨by omega, h2⟩, Nat.sub_zero]; omega
        · rw [if_neg (by omega), hA.up _ _ hik (by omega)]; omega
      · rw [if_neg (by omega), co_out (by rw [lst_len hr]; omega), co_out (by rw [lst_len hr]; omega), co_out (by rw [lst_len hr]; omega)]
        omega)
  obtain ⟨w, ew, lw, cw⟩ := L
  have hl : (rangeD ((k : Int) - 1) (((k : Int) - 1) - (-1)).toNat).length = k := by
    unfold rangeD
    rw [List.length_map, List.length_range]; omega
  rw [hl] at cw
  have hz : w = List.replicate k 0 := by
    rw [← co_list lw]
    rw [List.eq_replicate_iff]
    refine ⟨by rw [List.length_map, List.length_range], fun y hy => ?_⟩
    obtain ⟨j, _, rfl⟩ := List.mem_map.mp hy
    rw [cw]
    omega
  rw [ew, bind_ok, hz]
end T

set_option maxRecDepth 100000
set_option maxHeartbeats 4000000
namespace T
open PySem PySem.Spec PyProof.Rows L2
/-! ### the own polynomial of greater numbers -/
theorem xp_smB {f x : List Int} {n b : Nat} {A : List (List Int)} (hf : f.length = n + 1) (h1 : co f n = 1) (hx : x.length = n) (hn : 1 ≤ n) (hn4 : n ≤ 4) (ha : ∀ x ∈ f, Sm 9 x) (hb : ∀ z ∈ x, Sm b z) (hb2 : b ≤ 10000) (hA : IsTab f x n A) :
    ∀ k, k ≤ 4 → ∀ z ∈ xp n x A k, Sm ((k + 1) * (b + 50)) z
  | 0, _ => fun z hz => (hb z hz).mono (by omega)
  | k + 1, hk => fun z hz => by
    have h3 : (k + 1) * (b + 50) ≤ 4 * 10050 := Nat.mul_le_mul (by omega) (by omega)
    have h2 := (prod_row hf h1 hx (xp_len hx k) hn hn4 ha hb (xp_smB hf h1 hx hn hn4 ha hb hb2 hA k (by omega)) (by omega) hA).2.2 z hz
    refine h2.mono ?_
    rw [Nat.succ_mul (k + 1)]
    omega
theorem trs_okB {f x : List Int} {n b : Nat} {A : List (List Int)} (hf : f.length = n + 1) (h1 : co f n = 1) (hx : x.length = n) (hn : 1 ≤ n) (hn4 : n ≤ 4) (ha : ∀ x ∈ f, Sm 9 x) (hb : ∀ z ∈ x, Sm b z) (hb2 : b ≤ 10000) (hA : IsTab f x n A) {k : Nat} (hk : k ≤ 4) :
    m_trace_by f (xp n x A k) = ok (trs n A (k + 1)) ∧ Sm ((k + 1) * (b + 50) + 60) (trs n A (k + 1)) := by
  have hs := xp_smB hf h1 hx hn hn4 ha hb hb2 hA k hk
  have h3 : (k + 1) * (b + 50) ≤ 5 * 10050 := Nat.mul_le_mul (by omega) (by omega)
  obtain ⟨U, e, hU, sU⟩ := poly_table_is hf h1 (xp_len hx k) hn hn4 (a := 0) ha hs (by omega)
  have hUt := hU.uniq hf h1 (tp_is hx hA k)
  subst hUt
  refine ⟨?_, ?_⟩
  · unfold m_trace_by
    rw [e, bind_ok, sU.1, diag_ok (by omega) sU]
    rfl
  · show Sm _ (traceZ n (tp n A k))
    have := sum_sm (b := (k + 1) * (b + 50) + 50) ((rangeL 0 n).map fun k' => co ((tp n A k).getD k'.toNat []) k'.toNat) (fun y hy => by
      obtain ⟨j, hj, rfl⟩ := List.mem_map.mp hy
      by_cases hc : j.toNat < n
      · exact co_sm (sU.2 _ (getD_mem (by rw [sU.1]; exact hc))).2 _
      · rw [List.getD_eq_getElem?_getD, List.getElem?_eq_none (by rw [sU.1]; omega)]
        exact Nat.zero_le _)
    refine Sm.mono this ?_
    rw [List.length_map, rangeL_len]
    omega
theorem own_okB {f x : List Int} {n b : Nat} {A : List (List Int)} {c : Nat → Int} (hf : f.length = n + 1) (h1 : co f n = 1) (hx : x.length = n) (hn : 1 ≤ n) (hn4 : n ≤ 4) (ha : ∀ x ∈ f, Sm 9 x) (hb : ∀ z ∈ x, Sm b z) (hb2 : b ≤ 10000) (hA : IsTab f x n A)
    (h0 : c 0 = 1) (hN : ∀ k, 1 ≤ k → k ≤ n → newt c (trs n A) k = k * c k) : m_poly_own f x = ok (ownL n c) ∧ ∀ k, k ≤ n → Sm 170000 (c k) := by
  have ht : ∀ k, k ≤ n → Sm 41000 (trs n A k) := fun k hk => by
    match k with
    | 0 => exact Sm.of (A := 4) (by show (n : Int).natAbs ≤ 4; omega) (by decide +kernel)
    | k + 1 =>
      have := (trs_okB hf h1 hx hn hn4 ha hb hb2 hA (k := k) (by omega)).2
      have h3 : (k + 1) * (b + 50) ≤ 4 * 10050 := Nat.mul_le_mul (by omega) (by omega)
      exact this.mono (by omega)
  have hc := newt_sm (by omega) h0 ht hN n (Nat.le_refl _)
  refine ⟨?_, fun k hk => (hc k hk).mono (by
    have : k * (41000 + 20) ≤ 4 * 41020 := Nat.mul_le_mul (by omega) (by omega)
    omega)⟩
  unfold m_poly_own
  rw [bind_ok, bind_ok, bind_ok, hx, pr_nat (by omega), bind_ok]
  have L1 := Tot.loopMi (f := fun (s6 : (List Int) × (List Int)) k7 => (M.bind (M.bind (m_trace_by f s6.2) fun u8 => (papp s6.1 u8)) fun traces9 => (M.bind (m_product_by f s6.2 x) fun row10 => ok (traces9, row10)))) (xs := rangeL 0 n) (c := (([(n : Int)], x) : List Int × List Int))
    (fun i (s : List Int × List Int) => s.1 = (List.range (i + 1)).map (trs n A) ∧ s.2 = xp n x A i) ⟨rfl, rfl⟩ (fun i s y hy ⟨i1, i2⟩ => by
      have hi := (List.getElem?_eq_some_iff.mp hy).1
      rw [rangeL_len] at hi
      have hs := xp_smB hf h1 hx hn hn4 ha hb hb2 hA i (by omega)
      have h3 : (i + 1) * (b + 50) ≤ 4 * 10050 := Nat.mul_le_mul (by omega) (by omega)
      rw [i2, (trs_okB hf h1 hx hn hn4 ha hb hb2 hA (k := i) (by omega)).1, bind_ok]
      refine .bind (.papp (by rw [i1, List.length_map, List.length_range]; omega)) fun q hq => ?_
      rw [(prod_row hf h1 hx (xp_len hx i) hn hn4 ha hb hs (by omega) hA).1, bind_ok]
      refine .ok ⟨?_, rfl⟩
      dsimp only
      rw [hq, i1, List.range_succ (n := i + 1), List.map_append]
      rfl)
  obtain ⟨⟨U, w⟩, e1, hU, _⟩ := L1
  rw [rangeL_len] at hU
  dsimp only at hU
  rw [e1, bind_ok, bind_ok, prange1 (by omega), bind_ok]
  have L2 := Tot.loopMi (f := fun (signed13 : (List Int)) k14 => (M.bind (ok 0) fun total15 => (M.bind (M.bind (prange2 1 (k14 + 1)) fun xs => loopM (fun (total16 : Int) i17 => (M.bind (M.bind (M.bind (pget signed13 (k14 - i17)) fun u19 => M.bind (pget U i17) fun u20 => (pmul u19 u20)) fun u21 => ok (total16 - u21)) fun total18 => ok (total18))) (total15) xs) fun total22 => (M.bind (M.bind (pdiv total22 k14) fun u23 => (papp signed13 u23)) fun signed24 => ok (signed24))))) (xs := rangeL 1 n) (c := ([1] : List Int))
    (fun i (s : List Int) => s = (List.range (i + 1)).map c) (by show [1] = [c 0]; rw [h0]) (fun i s y hy i1 => by
      obtain ⟨rfl, hi⟩ := range1_get hy
      rw [bind_ok, prange1 (by omega), bind_ok, newt_loop (n := n) (k := i + 1) (T := 41000) (by omega) (by omega) (by omega) (by omega) i1 hU (fun j hj => hc j (by omega)) ht, bind_ok, hN (i + 1) (by omega) (by omega), pdiv_pos (A := 4) (by omega) (by omega), bind_ok, Int.mul_ediv_cancel_left _ (by omega)]
      refine .bind (.papp (by rw [i1, List.length_map, List.length_range]; omega)) fun q hq => .ok ?_
      rw [hq, i1, List.range_succ (n := i + 1), List.map_append]
      rfl)
  obtain ⟨S, e2, hS⟩ := L2
  rw [rangeL_len] at hS
  rw [e2, bind_ok, hS]
  rfl
/-! ### the law's own polynomial, by the traces -/
noncomputable def m_l_own (poly_here1 : (List Int)) (x2 : (List Int)) : M (List Int) :=
  (M.bind (ok (List.length x2 : Int)) fun many3 => (M.bind (ok ([] : List Int)) fun traces4 => (M.bind (ok x2) fun row5 => (M.bind (M.bind (prangeI many3) fun xs => loopM (fun (s6 : (List Int) × (List Int)) k7 => (M.bind (m_l_table poly_here1 s6.2) fun table_here8 => (M.bind (M.bind (M.bind (M.bind (prangeI many3) fun xs => mapC (fun i9 => (M.bind (pget table_here8 i9) fun u10 => (pget u10 i9))) xs) fun u11 => ok (List.sum u11)) fun u12 => (papp s6.1 u12)) fun traces13 => (M.bind (m_l_times poly_here1 s6.2 x2) fun row14 => ok (traces13, row14))))) (traces4, row5) xs) fun s15 => (M.bind (ok [1]) fun signed16 => (M.bind (M.bind (prange2 1 (many3 + 1)) fun xs => loopM (fun (signed17 : (List Int)) k18 => (M.bind (M.bind (M.bind (M.bind (M.bind (M.bind (prangeI k18) fun xs => mapC (fun i19 => (M.bind (pget signed17 ((k18 - 1) - i19)) fun u20 => M.bind (pget s15.1 i19) fun u21 => (pmul u20 u21))) xs) fun u22 => ok (List.sum u22)) fun u23 => ok (-u23)) fun u24 => (pdiv u24 k18)) fun u25 => (papp signed17 u25)) fun signed26 => ok (signed26))) (signed16) xs) fun signed27 => ok signed27))))))
theorem sub_sum (c t : Nat → Int) (k : Nat) : ∀ (l : List Nat) (tot : Int), l.foldl (fun tot i => tot - c (k - (i + 1)) * t (i + 1)) tot = tot - List.sum (l.map fun i => c (k - (i + 1)) * t (i + 1))
  | [], tot => by rw [List.foldl_nil, List.map_nil, List.sum_nil]; omega
  | i :: l, tot => by rw [List.foldl_cons, sub_sum c t k l, List.map_cons, List.sum_cons]; omega
theorem l_own_ok {f x : List Int} {n b : Nat} {A : List (List Int)} {c : Nat → Int} (hf : f.length = n + 1) (h1 : co f n = 1) (hx : x.length = n) (hn : 2 ≤ n) (hn4 : n ≤ 4) (ha : ∀ x ∈ f, Sm 9 x) (hb : ∀ z ∈ x, Sm b z) (hb2 : b ≤ 10000) (hA : IsTab f x n A)
    (h0 : c 0 = 1) (hN : ∀ k, 1 ≤ k → k ≤ n → newt c (trs n A) k = k * c k) : m_l_own f x = ok ((List.range (n + 1)).map c) := by
  have ht : ∀ k, k ≤ n → Sm 41000 (trs n A k) := fun k hk => by
    match k with
    | 0 => exact Sm.of (A := 4) (by show (n : Int).natAbs ≤ 4; omega) (by decide +kernel)
    | k + 1 =>
      have := (trs_okB hf h1 hx (by omega) hn4 ha hb hb2 hA (k := k) (by omega)).2
      have h3 : (k + 1) * (b + 50) ≤ 4 * 10050 := Nat.mul_le_mul (by omega) (by omega)
      exact this.mono (by omega)
  have hc := newt_sm (by omega) h0 ht hN n (Nat.le_refl _)
  unfold m_l_own
  rw [bind_ok, bind_ok, bind_ok, hx, pr_nat (by omega), bind_ok]
  have L1 := Tot.loopMi (f := fun (s6 : (List Int) × (List Int)) k7 => (M.bind (m_l_table f s6.2) fun table_here8 => (M.bind (M.bind (M.bind (M.bind (ok (rangeL 0 n)) fun xs => mapC (fun i9 => (M.bind (pget table_here8 i9) fun u10 => (pget u10 i9))) xs) fun u11 => ok (List.sum u11)) fun u12 => (papp s6.1 u12)) fun traces13 => (M.bind (m_l_times f s6.2 x) fun row14 => ok (traces13, row14))))) (xs := rangeL 0 n) (c := (([], x) : List Int × List Int))
    (fun i (s : List Int × List Int) => s.1 = (List.range i).map (fun j => trs n A (j + 1)) ∧ s.2 = xp n x A i) ⟨rfl, rfl⟩ (fun i s y hy ⟨i1, i2⟩ => by
      have hi := (List.getElem?_eq_some_iff.mp hy).1
      rw [rangeL_len] at hi
      have hs := xp_smB hf h1 hx (by omega) hn4 ha hb hb2 hA i (by omega)
      have h3 : (i + 1) * (b + 50) ≤ 4 * 10050 := Nat.mul_le_mul (by omega) (by omega)
      obtain ⟨U, _, e2, tU, sU⟩ := tables_same hf h1 (xp_len (n := n) (A := A) hx i) hn hn4 ha hs (by omega)
      have hU := tU.uniq hf h1 (tp_is hx hA i)
      subst hU
      have hd := diag_ok (n := n) (by omega) sU
      rw [pr_nat (by omega)] at hd
      rw [i2, e2, bind_ok, hd, bind_ok]
      refine .bind (.papp (by rw [i1, List.length_map, List.length_range]; omega)) fun q hq => ?_
      rw [(prod_row hf h1 hx (xp_len hx i) (by omega) hn4 ha hb hs (by omega) hA).2.1, bind_ok]
      refine .ok ⟨?_, rfl⟩
      dsimp only
      rw [hq, i1, List.range_succ, List.map_append]
      rfl)
  obtain ⟨⟨U, w⟩, e1, hU, _⟩ := L1
  rw [rangeL_len] at hU
  dsimp only at hU
  rw [e1, bind_ok, bind_ok, prange1 (by omega), bind_ok]
  have L2 := Tot.loopMi (f := fun (signed17 : (List Int)) k18 => (M.bind (M.bind (M.bind (M.bind (M.bind (M.bind (prangeI k18) fun xs => mapC (fun i19 => (M.bind (pget signed17 ((k18 - 1) - i19)) fun u20 => M.bind (pget U i19) fun u21 => (pmul u20 u21))) xs) fun u22 => ok (List.sum u22)) fun u23 => ok (-u23)) fun u24 => (pdiv u24 k18)) fun u25 => (papp signed17 u25)) fun signed26 => ok (signed26))) (xs := rangeL 1 n) (c := ([1] : List Int))
    (fun i (s : List Int) => s = (List.range (i + 1)).map c) (by show [1] = [c 0]; rw [h0]) (fun i s y hy i1 => by
      obtain ⟨rfl, hi⟩ := range1_get hy
      have em := mapC_ok (f := fun i19 => (M.bind (pget s ((((i + 1 : Nat) : Int) - 1) - i19)) fun u20 => M.bind (pget U i19) fun u21 => (pmul u20 u21))) (xs := rangeL 0 (i + 1)) (g := fun j : Int => c (i + 1 - (j.toNat + 1)) * trs n A (j.toNat + 1)) (fun j hj => by
        obtain ⟨j', hj'⟩ := List.getElem?_of_mem hj
        obtain ⟨rfl, hjk⟩ := range_get hj'
        have hb3 : (i - j') * (41000 + 20) ≤ 4 * 41020 := Nat.mul_le_mul (by omega) (by omega)
        rw [show (((i + 1 : Nat) : Int) - 1) - (j' : Int) = ((i - j' : Nat) : Int) by omega, pget_co (by rw [i1, List.length_map, List.length_range]; omega), i1, co_mapRange, if_pos (by omega), bind_ok, pget_co (by rw [hU, List.length_map, List.length_range]; omega), hU, co_mapRange, if_pos (by omega), bind_ok, mul_sm (hc (i - j') (by omega)) (ht (j' + 1) (by omega)) (by omega), Int.toNat_natCast, show i + 1 - (j' + 1) = i - j' by omega]) (by rw [sizeLineE, rangeL_len]; omega)
      rw [pr_nat (by omega), bind_ok, em, bind_ok, bind_ok, bind_ok, map_rangeL]
      have hnw := hN (i + 1) (by omega) (by omega)
      unfold newt at hnw
      rw [sub_sum] at hnw
      have hneg : -List.sum ((List.range (i + 1)).map fun j : Nat => c (i + 1 - ((j : Int).toNat + 1)) * trs n A ((j : Int).toNat + 1)) = ((i + 1 : Nat) : Int) * c (i + 1) := by
        rw [← hnw]
        simp only [Int.toNat_natCast]
        omega
      rw [hneg, pdiv_pos (A := 4) (by omega) (by omega), bind_ok, Int.mul_ediv_cancel_left _ (by omega)]
      refine .bind (.papp (by rw [i1, List.length_map, List.length_range]; omega)) fun q hq => .ok ?_
      rw [hq, i1, List.range_succ (n := i + 1), List.map_append]
      rfl)
  obtain ⟨S, e2, hS⟩ := L2
  rw [rangeL_len] at hS
  rw [e2, bind_ok, hS]
end T

set_option maxRecDepth 100000
set_option maxHeartbeats 2000000
namespace T
open PySem PySem.Spec PyProof.Rows L2
/-! ### what `apart` finds -/
theorem loopF_find {α ρ : Type} {f : Unit → α → M (Fl Unit ρ)} {Hit : α → Prop} {Good : ρ → Prop} : ∀ (xs : List α), (∀ x ∈ xs, (f () x = ok (Fl.nx ()) ∧ ¬ Hit x) ∨ ∃ a, f () x = ok (Fl.rt a) ∧ Good a) →
    (loopF f () xs = ok (Fl.nx ()) ∧ ∀ x ∈ xs, ¬ Hit x) ∨ ∃ a, loopF f () xs = ok (Fl.rt a) ∧ Good a
  | [], _ => .inl ⟨rfl, fun x h => absurd h List.not_mem_nil⟩
  | x :: xs, h => by
    unfold loopF
    rcases h x List.mem_cons_self with ⟨e1, n1⟩ | ⟨a, e1, g⟩
    · rw [e1, bind_ok]
      rcases loopF_find (Hit := Hit) (Good := Good) xs (fun y hy => h y (List.mem_cons_of_mem _ hy)) with ⟨e2, n2⟩ | ⟨a, e2, g⟩
      · refine .inl ⟨e2, fun y hy => ?_⟩
        rcases List.mem_cons.mp hy with rfl | h'
        · exact n1
        · exact n2 y h'
      · exact .inr ⟨a, e2, g⟩
    · rw [e1, bind_ok]
      exact .inr ⟨a, rfl, g⟩
theorem sq_nx {C ρ θ : Type} (c : C) (k : C → M θ) (ι : ρ → θ) : sq (ok (Fl.nx c)) k ι = k c := rfl
theorem sq_rt {C ρ θ : Type} (a : ρ) (k : C → M θ) (ι : ρ → θ) : sq (ok (Fl.rt a)) k ι = ok (ι a) := rfl
theorem root_dvd {x : Int} {f : List Int} {r : Int} (h : ev (x :: f) r = 0) : r ∣ x := ⟨-ev f r, by
  have e : ev (x :: f) r = x + r * ev f r := rfl
  rw [e] at h
  rw [Int.mul_neg]
  omega⟩
theorem range1_mem {n : Nat} {x : Int} (h : x ∈ rangeL 1 n) : 1 ≤ x ∧ x ≤ n := by
  obtain ⟨i, hi⟩ := List.getElem?_of_mem h
  obtain ⟨rfl, hin⟩ := range1_get hi
  omega
theorem range1_in {n : Nat} {x : Int} (h1 : 1 ≤ x) (h2 : x ≤ n) : x ∈ rangeL 1 n := by
  refine List.mem_of_getElem? (i := (x - 1).toNat) ?_
  rw [rangeL_get, if_pos (by omega)]
  congr 1
  omega
theorem whole_root_ok {f : List Int} (h : Gd f) : (m_whole_root f = ok none ∧ ∀ r, ev f r ≠ 0) ∨ ∃ r, m_whole_root f = ok (some r) ∧ ev f r = 0 := by
  have hm := h.mem
  have hl := h.len
  match f, hl, hm, h with
  | x :: rest, hl, hm, h =>
    have hx := hm x List.mem_cons_self
    unfold m_whole_root
    rw [pg0, bind_ok, bind_ok, bind_ok]
    by_cases h0 : x = 0
    · subst h0
      rw [if_pos (by decide)]
      refine .inr ⟨0, rfl, ?_⟩
      show (0 : Int) + 0 * ev rest 0 = 0
      omega
    · rw [if_neg (by simp; omega), prange1 (by omega), bind_ok]
      have at_ok : ∀ z : Int, z.natAbs ≤ 500 → m_poly_at (x :: rest) z = ok (ev (x :: rest) z) := fun z hz => by
        rw [e_poly_at]
        exact horner_val (a := 9) (m := 9) h.sm (Sm.of hz) (by omega)
      have dv : ∀ r : Int, ev (x :: rest) r = 0 → r ∣ x ∧ r ≠ 0 ∧ r.natAbs ≤ x.natAbs := fun r hr => by
        have d := root_dvd hr
        refine ⟨d, fun z => ?_, Nat.le_of_dvd (by omega) (Int.natAbs_dvd_natAbs.mpr d)⟩
        subst z
        exact h0 (Int.zero_dvd.mp d)
      have key := loopF_find (f := fun (s5 : Unit) (size6 : Int) => (M.bind (M.bind (pmod (x.natAbs : Int) size6) fun u7 => ok (decide (u7 = 0))) fun z8 => if z8 = true then (M.bind (M.bind (m_poly_at (x :: rest) size6) fun u9 => ok (decide (u9 = 0))) fun z10 => if z10 = true then M.bind (ok (some size6)) fun a14 => ok (Fl.rt a14) else (M.bind (M.bind (m_poly_at (x :: rest) (-size6)) fun u11 => ok (decide (u11 = 0))) fun z12 => if z12 = true then (M.bind (ok (some (-size6))) fun a13 => ok (Fl.rt a13)) else ok (Fl.nx ()))) else ok (Fl.nx () : Fl Unit (Option Int))))
        (Hit := fun s => ev (x :: rest) s = 0 ∨ ev (x :: rest) (-s) = 0) (Good := fun o => ∃ r, o = some r ∧ ev (x :: rest) r = 0) (rangeL 1 x.natAbs) (fun s hs => by
          obtain ⟨s1, s2⟩ := range1_mem hs
          rw [pmod_pos (by omega), bind_ok, bind_ok]
          by_cases hd : (x.natAbs : Int) % s = 0
          · rw [if_pos (decide_eq_true hd), at_ok s (by omega), bind_ok, bind_ok]
            by_cases e1 : ev (x :: rest) s = 0
            · rw [if_pos (decide_eq_true e1), bind_ok]
              exact .inr ⟨_, rfl, s, rfl, e1⟩
            · rw [if_neg (by simpa using e1), at_ok (-s) (by omega), bind_ok, bind_ok]
              by_cases e2 : ev (x :: rest) (-s) = 0
              · rw [if_pos (decide_eq_true e2), bind_ok]
                exact .inr ⟨_, rfl, -s, rfl, e2⟩
              · rw [if_neg (by simpa using e2)]
                exact .inl ⟨rfl, fun z => z.elim e1 e2⟩
          · rw [if_neg (by simpa using hd)]
            refine .inl ⟨rfl, fun z => hd (Int.emod_eq_zero_of_dvd ?_)⟩
            rcases z with z | z
            · exact Int.dvd_natAbs.mpr (dv s z).1
            · exact Int.dvd_natAbs.mpr (Int.neg_dvd.mp (dv (-s) z).1))
      rcases key with ⟨e, no⟩ | ⟨a, e, r, rfl, hr⟩
      · left
        refine ⟨?_, fun r hr => ?_⟩
        · rw [e, sq_nx]
        · obtain ⟨d, r0, rb⟩ := dv r hr
          refine no (r.natAbs : Int) (range1_in (by omega) (by omega)) ?_
          by_cases hr0 : 0 ≤ r
          · left; rwa [show (r.natAbs : Int) = r by omega]
          · right; rwa [show -(r.natAbs : Int) = r by omega]
      · right
        exact ⟨r, by rw [e, sq_rt], hr⟩
/-- two factors of degree two, the first with the lowest place z -/
def QuadAt (p q r s z : Int) : Prop := ∃ a d c : Int, p = z * d ∧ q = z * c + a * d ∧ r = z + a * c + d ∧ s = a + c
theorem half_ok {s t m : Int} (h : t * t = s * s - 4 * m) : s + t = 2 * ((s + t) / 2) ∧ ((s + t) / 2) * (s - (s + t) / 2) = m := by
  have par : (s + t) % 2 = 0 := by
    have hs := Int.emod_two_eq s
    have ht := Int.emod_two_eq t
    have ds := Int.mul_ediv_add_emod s 2
    have dt := Int.mul_ediv_add_emod t 2
    generalize s / 2 = u at ds
    generalize t / 2 = v at dt
    rcases hs with hs | hs <;> rcases ht with ht | ht
    · omega
    · exfalso
      have e1 : s = 2 * u := by omega
      have e2 : t = 2 * v + 1 := by omega
      subst e1; subst e2
      have : (2 * v + 1) * (2 * v + 1) = 4 * (v * v + v) + 1 := by grind
      have h2 : (2 * u) * (2 * u) = 4 * (u * u) := by grind
      rw [this, h2] at h
      omega
    · exfalso
      have e1 : s = 2 * u + 1 := by omega
      have e2 : t = 2 * v := by omega
      subst e1; subst e2
      have : (2 * u + 1) * (2 * u + 1) = 4 * (u * u + u) + 1 := by grind
      have h2 : (2 * v) * (2 * v) = 4 * (v * v) := by grind
      rw [this, h2] at h
      omega
    · omega
  have e : s + t = 2 * ((s + t) / 2) := by omega
  refine ⟨e, ?_⟩
  generalize (s + t) / 2 = a at e
  have ht : t = 2 * a - s := by omega
  subst ht
  have : (2 * a - s) * (2 * a - s) = s * s - 4 * (a * (s - a)) := by grind
  rw [this] at h
  omega
theorem pair_ok {p q r s z d : Int} (hp : p.natAbs ≤ 499) (hq : q.natAbs ≤ 499) (hr : r.natAbs ≤ 499) (hs : s.natAbs ≤ 499) (hz : z ≠ 0) (hz2 : z.natAbs ≤ 499) (hd : p = z * d) :
    (m_pair_by [p, q, r, s, 1] z = ok none ∧ ¬ QuadAt p q r s z) ∨ ∃ a c : Int, m_pair_by [p, q, r, s, 1] z = ok (some ([z, a, 1], [d, c, 1])) ∧ q = z * c + a * d ∧ r = z + a * c + d ∧ s = a + c := by
  have hdd : d.natAbs ≤ 499 := by
    have h9 : p.natAbs = z.natAbs * d.natAbs := by rw [hd, Int.natAbs_mul]
    have h8 : 1 * d.natAbs ≤ z.natAbs * d.natAbs := Nat.mul_le_mul_right _ (by omega)
    omega
  have uniq : ∀ d' : Int, p = z * d' → d' = d := fun d' h => Int.eq_of_mul_eq_mul_left hz (h.symm.trans hd)
  have hzs := natAbs_mul_le hz2 hs
  have hss := natAbs_mul_le hs hs
  unfold m_pair_by
  rw [pg0, bind_ok, pdiv_ok hz (log2_small (by omega)), hd, Int.mul_fdiv_cancel_left _ hz, ← hd, bind_ok, pg2, bind_ok, bind_ok, bind_ok, bind_ok]
  by_cases hzd : z = d
  · rw [decide_eq_true hzd, if_neg (by decide), pg1, bind_ok, pg3, bind_ok, pmul_left (by rw [pow64]; omega), bind_ok, bind_ok]
    by_cases h1 : q = z * s
    · rw [decide_eq_true h1, if_neg (by decide), bind_ok, bind_ok, pmul_left (by rw [pow64]; omega), bind_ok, bind_ok]
      generalize hm : r - z - d = m
      have key : ∀ a c : Int, r = z + a * c + d → s = a + c → s * s - 4 * m = (a - c) * (a - c) := fun a c h3 h4 => by
        have : m = a * c := by omega
        subst this; subst h4
        grind
      by_cases hneg : s * s - 4 * m < 0
      · rw [decide_eq_true hneg, bind_ok, if_pos rfl, bind_ok, if_pos rfl]
        refine .inl ⟨rfl, fun ⟨a, d', c, h2, h3, h4, h5⟩ => ?_⟩
        rw [uniq d' h2] at h4
        have := key a c h4 h5
        have h6 : 0 ≤ (a - c) * (a - c) := by
          rcases Int.le_total 0 (a - c) with h | h
          · exact Int.mul_nonneg h h
          · exact Int.mul_nonneg_of_nonpos_of_nonpos h h
        omega
      · obtain ⟨t, et, t0, tB, t1, t2⟩ := root_ok (m := s * s - 4 * m) (B := 1000) (by omega) (by omega) (by omega) (by decide +kernel)
        rw [decide_eq_false hneg, bind_ok, if_neg (by decide), et, bind_ok, bind_ok, pmul_left (by rw [pow64]; omega), bind_ok, bind_ok]
        by_cases hsq : t * t = s * s - 4 * m
        · rw [decide_eq_true hsq, if_neg (by decide), bind_ok, bind_ok, bind_ok, bind_ok]
          obtain ⟨e1, e2⟩ := half_ok hsq
          refine .inr ⟨(s + t) / 2, s - (s + t) / 2, by simp only [bind_okS, psz_ok (show ([d, s - (s + t) / 2, 1] : List Int).length ≤ 16777216 by simp)], ?_, ?_, by omega⟩
          · rw [← hzd, h1, Int.mul_sub, Int.mul_comm ((s + t) / 2) z]; omega
          · rw [e2]; omega
        · rw [decide_eq_false hsq, if_pos (show (!false) = true from rfl)]
          refine .inl ⟨rfl, fun ⟨a, d', c, h2, h3, h4, h5⟩ => hsq ?_⟩
          rw [uniq d' h2] at h4
          have hk := key a c h4 h5
          rw [hk] at t1 t2 ⊢
          have f1 : ((a - c).natAbs : Int) * ((a - c).natAbs : Int) = (a - c) * (a - c) := by
            rw [← Int.natAbs_mul_self]; simp
          rw [← f1] at t1 t2 ⊢
          have g1 : t ≤ (a - c).natAbs := by
            by_cases g : t ≤ (a - c).natAbs
            · exact g
            · have := sq_lt (a := (t)) (b := ((a - c).natAbs : Int)) (by omega) (by
                have := sq_mono (a := ((a - c).natAbs : Int) + 1) (b := t) (by omega) (by omega)
                have h9 : (((a - c).natAbs : Int) + 1) * (((a - c).natAbs : Int) + 1) = ((a - c).natAbs : Int) * ((a - c).natAbs : Int) + 2 * ((a - c).natAbs : Int) + 1 := by grind
                omega)
              omega
          have g2 := sq_lt (a := ((a - c).natAbs : Int)) (b := t + 1) (by omega) t2
          rw [show t = ((a - c).natAbs : Int) by omega]
    · rw [decide_eq_false h1, if_pos (show (!false) = true from rfl)]
      refine .inl ⟨rfl, fun ⟨a, d', c, h2, h3, h4, h5⟩ => h1 ?_⟩
      rw [uniq d' h2, ← hzd] at h3
      rw [h3, h5, Int.mul_add, Int.mul_comm a z]; omega
  · rw [decide_eq_false hzd, if_pos (show (!false) = true from rfl), pg1, bind_ok, pg3, bind_ok, pmul_left (by rw [pow64]; omega), bind_ok, bind_ok]
    have hne : d - z ≠ 0 := by omega
    have hdz : (d - z).natAbs ≤ 1000 := by omega
    rw [pmod_ok hne, bind_ok, bind_ok]
    have key : ∀ a c : Int, q = z * c + a * d → s = a + c → q - z * s = (d - z) * a := fun a c h3 h5 => by
      subst h5; subst h3; grind
    by_cases hf : (q - z * s).fmod (d - z) = 0
    · rw [decide_eq_true hf, if_neg (by decide), pdiv_ok hne (log2_small (by omega)), bind_ok]
      obtain ⟨a, ha⟩ := Int.dvd_of_fmod_eq_zero hf
      rw [ha, Int.mul_fdiv_cancel_left _ hne]
      have hab : a.natAbs ≤ 1000000 := by
        have h9 : (q - z * s).natAbs = (d - z).natAbs * a.natAbs := by rw [ha, Int.natAbs_mul]
        have h8 : 1 * a.natAbs ≤ (d - z).natAbs * a.natAbs := Nat.mul_le_mul_right _ (by omega)
        omega
      rw [bind_ok, bind_ok, pmul_left (by rw [pow64]; omega), bind_ok, bind_ok]
      by_cases hm : a * (s - a) = r - z - d
      · rw [decide_eq_true hm, if_neg (by decide)]
        refine .inr ⟨a, s - a, by simp only [bind_okS, psz_ok (show ([d, s - a, 1] : List Int).length ≤ 16777216 by simp)], ?_, by omega, by omega⟩
        have f1 : (d - z) * a = d * a - z * a := Int.sub_mul ..
        have f2 : z * (s - a) = z * s - z * a := Int.mul_sub ..
        have f3 : a * d = d * a := Int.mul_comm ..
        omega
      · rw [decide_eq_false hm, if_pos (show (!false) = true from rfl)]
        refine .inl ⟨rfl, fun ⟨a', d', c, h2, h3, h4, h5⟩ => hm ?_⟩
        rw [uniq d' h2] at h3 h4
        have hk := key a' c h3 h5
        rw [ha] at hk
        have haa : a = a' := Int.eq_of_mul_eq_mul_left hne hk
        subst haa
        rw [show s - a = c by omega]
        omega
    · rw [decide_eq_false hf, if_pos (show (!false) = true from rfl)]
      refine .inl ⟨rfl, fun ⟨a, d', c, h2, h3, h4, h5⟩ => hf ?_⟩
      rw [uniq d' h2] at h3
      rw [key a c h3 h5]
      exact Int.mul_fmod_right _ _
end T

set_option maxRecDepth 100000
set_option maxHeartbeats 2000000
namespace T
open PySem PySem.Spec PyProof.Rows L2
/-! ### the two factors -/
structure PairOf (g h f : List Int) : Prop where
  lg : 2 ≤ g.length
  lh : 2 ≤ h.length
  tg : co g (g.length - 1) = 1
  th : co h (h.length - 1) = 1
  len : f.length + 1 = g.length + h.length
  mul : ∀ t, co (mulP g h) t = co f t
  sg : ∀ x ∈ g, Sm 60 x
  sh : ∀ x ∈ h, Sm 60 x
def Fa (f : List Int) : Prop := (∃ r, ev f r = 0) ∨ ∃ p q r s z, f = [p, q, r, s, 1] ∧ QuadAt p q r s z
theorem sm499 {x : Int} (h : x.natAbs ≤ 499) : Sm 9 x := Sm.of (A := 500) (by omega) (by decide +kernel)
theorem root_pair {f : List Int} (hg : Gd f) {r : Int} (hr : ev f r = 0) (hrb : r.natAbs ≤ 499) : ∃ u, m_poly_parted f [-r, 1] = ok (u, []) ∧ PairOf [-r, 1] u f := by
  have sr := sm499 hrb
  have sg : ∀ x ∈ [-r, 1], Sm 60 x := fun x hx => by
    simp only [List.mem_cons, List.not_mem_nil, or_false] at hx
    rcases hx with rfl | rfl
    · exact sr.neg.mono (by decide)
    · exact Sm.of (A := 1) (by decide) (by decide +kernel)
  have s1 : Sm 9 (1 : Int) := Sm.of (A := 1) (by decide) (by decide +kernel)
  have main : ∀ u : List Int, u.length + 1 = f.length → 2 ≤ u.length → co u (u.length - 1) = 1 → (∀ x ∈ u, Sm 60 x) → (∀ t, co f t = co (mulP u [-r, 1]) t + co ([] : List Int) t) → ∃ u, m_poly_parted f [-r, 1] = ok (u, []) ∧ PairOf [-r, 1] u f := fun u lu lu2 tu su hu => by
    have cu : Cut u := by
      refine .inr ⟨1, u.dropLast, ?_, by decide⟩
      have hne : u ≠ [] := fun e => by rw [e] at lu2; exact absurd lu2 (by decide)
      have := (List.dropLast_concat_getLast hne).symm
      rw [List.getLast_eq_getElem, ← co_get (by omega), tu] at this
      exact this
    have cf : Cut f := by
      obtain ⟨g, e, _⟩ := hg
      exact .inr ⟨1, g, e, by decide⟩
    refine ⟨u, ?_, by simp, lu2, rfl, tu, by simp; omega, fun t => ?_, sg, su⟩
    · have := poly_parted_ok (f := f) (g := [-r, 1]) (u := u) (r := []) (d := 1) (a := 60) (b := 60) cu rfl rfl (fun t _ => rfl) cf hu su sg (by decide) (by have := hg.len; omega) (by decide)
      exact this
    · rw [hu, mulP_comm]
      show _ = _ + (0 : Int)
      omega
  rcases hg.cases with ⟨a, b, rfl, ha, hb⟩ | ⟨a, b, c, rfl, ha, hb, hc⟩ | ⟨a, b, c, d, rfl, ha, hb, hc, hd⟩
  · have e : a + r * (b + r * (1 + r * 0)) = 0 := hr
    refine main [b + r, 1] rfl (by simp) rfl (fun x hx => ?_) fun t => ?_
    · simp only [List.mem_cons, List.not_mem_nil, or_false] at hx
      rcases hx with rfl | rfl
      · exact ((sm499 hb).add sr).mono (by decide)
      · exact s1.mono (by decide)
    · match t with
      | 0 => simp [mulP, addP, scaleP, co]; grind
      | 1 => simp [mulP, addP, scaleP, co]; try grind
      | 2 => simp [mulP, addP, scaleP, co]
      | t + 3 => simp [mulP, addP, scaleP, co]
  · have e : a + r * (b + r * (c + r * (1 + r * 0))) = 0 := hr
    refine main [b + r * (c + r), c + r, 1] rfl (by simp) rfl (fun x hx => ?_) fun t => ?_
    · have s2 : Sm 10 (c + r) := ((sm499 hc).add sr).mono (by decide)
      simp only [List.mem_cons, List.not_mem_nil, or_false] at hx
      rcases hx with rfl | rfl | rfl
      · exact (((sm499 hb).mono (show 9 ≤ 25 by decide)).add ((sr.mul s2).mono (show 9 + 10 + 1 ≤ 25 by decide))).mono (by decide)
      · exact s2.mono (by decide)
      · exact s1.mono (by decide)
    · match t with
      | 0 => simp [mulP, addP, scaleP, co]; grind
      | 1 => simp [mulP, addP, scaleP, co]; try grind
      | 2 => simp [mulP, addP, scaleP, co]; try grind
      | 3 => simp [mulP, addP, scaleP, co]
      | t + 4 => simp [mulP, addP, scaleP, co]
  · have e : a + r * (b + r * (c + r * (d + r * (1 + r * 0)))) = 0 := hr
    refine main [b + r * (c + r * (d + r)), c + r * (d + r), d + r, 1] rfl (by simp) rfl (fun x hx => ?_) fun t => ?_
    · have s2 : Sm 10 (d + r) := ((sm499 hd).add sr).mono (by decide)
      have s3 : Sm 26 (c + r * (d + r)) := (((sm499 hc).mono (show 9 ≤ 25 by decide)).add ((sr.mul s2).mono (show 9 + 10 + 1 ≤ 25 by decide))).mono (by decide)
      simp only [List.mem_cons, List.not_mem_nil, or_false] at hx
      rcases hx with rfl | rfl | rfl | rfl
      · exact (((sm499 hb).mono (show 9 ≤ 40 by decide)).add ((sr.mul s3).mono (show 9 + 26 + 1 ≤ 40 by decide))).mono (by decide)
      · exact s3.mono (by decide)
      · exact s2.mono (by decide)
      · exact s1.mono (by decide)
    · match t with
      | 0 => simp [mulP, addP, scaleP, co]; grind
      | 1 => simp [mulP, addP, scaleP, co]; try grind
      | 2 => simp [mulP, addP, scaleP, co]; try grind
      | 3 => simp [mulP, addP, scaleP, co]; try grind
      | 4 => simp [mulP, addP, scaleP, co]
      | t + 5 => simp [mulP, addP, scaleP, co]
theorem quad_pair {p q r s z d a c : Int} (hz : Sm 60 z) (hd : Sm 60 d) (ha : Sm 60 a) (hc : Sm 60 c) (h1 : p = z * d) (h2 : q = z * c + a * d) (h3 : r = z + a * c + d) (h4 : s = a + c) : PairOf [z, a, 1] [d, c, 1] [p, q, r, s, 1] := by
  have s1 : Sm 60 (1 : Int) := Sm.of (A := 1) (by decide) (by decide +kernel)
  refine ⟨by simp, by simp, rfl, rfl, rfl, fun t => ?_, fun x hx => ?_, fun x hx => ?_⟩
  · subst h1; subst h2; subst h3; subst h4
    match t with
    | 0 => simp [mulP, addP, scaleP, co]
    | 1 => simp [mulP, addP, scaleP, co]
    | 2 => simp [mulP, addP, scaleP, co]; try grind
    | 3 => simp [mulP, addP, scaleP, co]; try grind
    | 4 => simp [mulP, addP, scaleP, co]
    | t + 5 => simp [mulP, addP, scaleP, co]
  · simp only [List.mem_cons, List.not_mem_nil, or_false] at hx
    rcases hx with rfl | rfl | rfl <;> assumption
  · simp only [List.mem_cons, List.not_mem_nil, or_false] at hx
    rcases hx with rfl | rfl | rfl <;> assumption

theorem quad_sm {p r s z d a c : Int} (hp : p.natAbs ≤ 499) (hs : s.natAbs ≤ 499) (hz : z ≠ 0) (hz2 : z.natAbs ≤ 499) (h1 : p = z * d) (h3 : r = z + a * c + d) (h4 : s = a + c) (hr : r.natAbs ≤ 499) : Sm 60 z ∧ Sm 60 d ∧ Sm 60 a ∧ Sm 60 c := by
  have hd : d.natAbs ≤ 499 := by
    have h9 : p.natAbs = z.natAbs * d.natAbs := by rw [h1, Int.natAbs_mul]
    have h8 : 1 * d.natAbs ≤ z.natAbs * d.natAbs := Nat.mul_le_mul_right _ (by omega)
    omega
  have hac : (a * c).natAbs ≤ 1500 := by omega
  have hb : a.natAbs ≤ 5000 := by
    by_cases h0 : c = 0
    · subst h0; omega
    · have h9 : (a * c).natAbs = a.natAbs * c.natAbs := Int.natAbs_mul ..
      have h8 : a.natAbs * 1 ≤ a.natAbs * c.natAbs := Nat.mul_le_mul_left _ (by omega)
      omega
  exact ⟨(sm499 hz2).mono (by decide), (sm499 hd).mono (by decide), Sm.of (A := 5000) hb (by decide +kernel), Sm.of (A := 6000) (by omega) (by decide +kernel)⟩
theorem apart_ok {f : List Int} (h : Gd f) (hc : m_check_poly f = ok ()) : (m_apart f = ok none ∧ ¬ Fa f) ∨ ∃ g k, m_apart f = ok (some (g, k)) ∧ Fa f ∧ PairOf g k f := by
  have hm := h.mem
  unfold m_apart
  rw [hc, bind_ok, bind_ok]
  rcases whole_root_ok h with ⟨e, no⟩ | ⟨r, e, hr⟩
  · rw [e, bind_ok, bind_ok, if_neg (show ¬ (none : Option Int).isSome = true from fun z => nomatch z), bind_ok]
    by_cases h5 : f.length = 5
    · rcases h.cases with ⟨a, b, rfl, ha, hb⟩ | ⟨a, b, c, rfl, ha, hb, hc⟩ | ⟨p, q, r, s, rfl, hp, hq, hr, hs⟩
      · simp at h5
      · simp at h5
      · rw [if_pos (show decide ((([p, q, r, s, 1] : List Int).length : Int) = 5) = true from rfl), pg0, bind_ok, bind_ok, prange1 (by omega), bind_ok]
        have p0 : p ≠ 0 := fun z => no 0 (by subst z; show (0 : Int) + 0 * _ = 0; omega)
        have qd : ∀ z, QuadAt p q r s z → z ∣ p ∧ z ≠ 0 ∧ z.natAbs ≤ p.natAbs := fun z ⟨a, d, c, h1, _⟩ => by
          have hd : z ∣ p := ⟨d, h1⟩
          refine ⟨hd, fun k => ?_, Nat.le_of_dvd (by omega) (Int.natAbs_dvd_natAbs.mpr hd)⟩
          subst k
          exact p0 (by rw [h1]; omega)
        let Good : Option (List Int × List Int) → Prop := fun o => ∃ g k, o = some (g, k) ∧ (∃ z, QuadAt p q r s z) ∧ PairOf g k [p, q, r, s, 1]
        have inner : ∀ t : Int, t ∣ p → t ≠ 0 → t.natAbs ≤ 499 → ((M.bind (m_pair_by [p, q, r, s, 1] t) fun found22 => (M.bind (ok (Option.isSome found22)) fun z23 => if z23 = true then (M.bind (ok found22) fun a24 => ok (Fl.rt a24)) else ok (Fl.nx () : Fl Unit (Option (List Int × List Int))))) = ok (Fl.nx ()) ∧ ¬ QuadAt p q r s t) ∨ ∃ o, (M.bind (m_pair_by [p, q, r, s, 1] t) fun found22 => (M.bind (ok (Option.isSome found22)) fun z23 => if z23 = true then (M.bind (ok found22) fun a24 => ok (Fl.rt a24)) else ok (Fl.nx () : Fl Unit (Option (List Int × List Int))))) = ok (Fl.rt o) ∧ Good o := fun t ⟨d, hd⟩ t0 t1 => by
          rcases pair_ok hp hq hr hs t0 t1 hd with ⟨e, n⟩ | ⟨a, c, e, h2, h3, h4⟩
          · rw [e, bind_ok, bind_ok, if_neg (by decide)]
            exact .inl ⟨rfl, n⟩
          · rw [e, bind_ok, bind_ok, if_pos (show (some (([t, a, 1], [d, c, 1]) : List Int × List Int)).isSome = true from rfl), bind_ok]
            obtain ⟨z1, z2, z3, z4⟩ := quad_sm hp hs t0 t1 hd h3 h4 hr
            exact .inr ⟨_, rfl, _, _, rfl, ⟨t, a, d, c, hd, h2, h3, h4⟩, quad_pair z1 z2 z3 z4 hd h2 h3 h4⟩
        have outer := loopF_find (f := fun (s16 : Unit) (size17 : Int) => (M.bind (M.bind (pmod (p.natAbs : Int) size17) fun u18 => ok (decide (u18 = 0))) fun z19 => if z19 = true then (sq (ρ := (Option ((List Int) × (List Int)))) (M.bind (ok [size17, (-size17)]) fun xs => loopF (fun (s20 : Unit) b21 => (M.bind (m_pair_by [p, q, r, s, 1] b21) fun found22 => (M.bind (ok (Option.isSome found22)) fun z23 => if z23 = true then (M.bind (ok found22) fun a24 => ok (Fl.rt a24)) else ok (Fl.nx ())))) () xs) (fun s25 => ok (Fl.nx ())) (fun a => Fl.rt a)) else ok (Fl.nx () : Fl Unit (Option (List Int × List Int)))))
          (Hit := fun z => QuadAt p q r s z ∨ QuadAt p q r s (-z)) (Good := Good) (rangeL 1 p.natAbs) (fun z hz => by
            obtain ⟨z1, z2⟩ := range1_mem hz
            rw [pmod_pos (by omega), bind_ok, bind_ok]
            by_cases hd : (p.natAbs : Int) % z = 0
            · have hzp : z ∣ p := Int.dvd_natAbs.mp (Int.dvd_of_emod_eq_zero hd)
              rw [if_pos (decide_eq_true hd), bind_ok]
              rcases loopF_find (f := fun (s20 : Unit) (b21 : Int) => (M.bind (m_pair_by [p, q, r, s, 1] b21) fun found22 => (M.bind (ok (Option.isSome found22)) fun z23 => if z23 = true then (M.bind (ok found22) fun a24 => ok (Fl.rt a24)) else ok (Fl.nx () : Fl Unit (Option (List Int × List Int)))))) (Hit := fun b => QuadAt p q r s b) (Good := Good) [z, -z] (fun b hb => by
                have hb' : b ∣ p ∧ b ≠ 0 ∧ b.natAbs ≤ 499 := by
                  simp only [List.mem_cons, List.not_mem_nil, or_false] at hb
                  rcases hb with rfl | rfl
                  · exact ⟨hzp, by omega, by omega⟩
                  · exact ⟨Int.neg_dvd.mpr hzp, by omega, by omega⟩
                exact inner b hb'.1 hb'.2.1 hb'.2.2) with ⟨e, n⟩ | ⟨o, e, g⟩
              · rw [e, sq_nx]
                exact .inl ⟨rfl, fun k => k.elim (n z (by simp)) (n (-z) (by simp))⟩
              · rw [e, sq_rt]
                exact .inr ⟨o, rfl, g⟩
            · rw [if_neg (by simpa using hd)]
              refine .inl ⟨rfl, fun k => hd (Int.emod_eq_zero_of_dvd ?_)⟩
              rcases k with k | k
              · exact Int.dvd_natAbs.mpr (qd z k).1
              · exact Int.dvd_natAbs.mpr (Int.neg_dvd.mp (qd (-z) k).1))
        rcases outer with ⟨e, n⟩ | ⟨o, e, g, k, rfl, hq', hpair⟩
        · left
          refine ⟨by rw [e, sq_nx, sq_nx], fun hF => ?_⟩
          rcases hF with ⟨x, hx⟩ | ⟨p', q', r', s', z, he, hz⟩
          · exact no x hx
          · cases he
            obtain ⟨z1, z2, z3⟩ := qd z hz
            refine n (z.natAbs : Int) (range1_in (by omega) (by omega)) ?_
            by_cases hz0 : 0 ≤ z
            · left; rwa [show (z.natAbs : Int) = z by omega]
            · right; rwa [show -(z.natAbs : Int) = z by omega]
        · right
          obtain ⟨z, hz⟩ := hq'
          exact ⟨g, k, by rw [e, sq_rt, sq_rt], .inr ⟨p, q, r, s, z, rfl, hz⟩, hpair⟩
    · rw [if_neg (show ¬ decide ((f.length : Int) = 5) = true by simp; omega), sq_nx]
      refine .inl ⟨rfl, fun hF => ?_⟩
      rcases hF with ⟨x, hx⟩ | ⟨p, q, r, s, z, rfl, _⟩
      · exact no x hx
      · exact h5 rfl
  · have hrb : r.natAbs ≤ 499 := by
      match f, hm, hr, h with
      | x :: rest, hm, hr, h =>
        by_cases h0 : x = 0
        · have : m_whole_root (x :: rest) = ok (some 0) := by
            subst h0
            unfold m_whole_root
            rw [pg0, bind_ok, bind_ok, bind_ok, if_pos (by decide)]
          rw [this] at e
          cases e
          decide
        · have d := root_dvd hr
          have := Nat.le_of_dvd (by omega) (Int.natAbs_dvd_natAbs.mpr d)
          have := hm x List.mem_cons_self
          omega
    obtain ⟨u, eu, hu⟩ := root_pair h hr hrb
    rw [e, bind_ok, bind_ok, if_pos (show (some r).isSome = true from rfl)]
    refine .inr ⟨[-r, 1], u, ?_, .inl ⟨r, hr⟩, hu⟩
    simp only [unO_some, bind_okS, psz_ok (show ([-r, 1] : List Int).length ≤ 16777216 by simp), eu]
end T

namespace K11Law
open PySem PySem.Spec PyProof.Rows L2 T
set_option maxRecDepth 100000
set_option maxHeartbeats 4000000
def topS (i : Nat) : Stmt := PySem.Challenge.pw_ringhouse_k11_apart_told.main.body.getD i (.Pass ⟨0, 0, 0, 0⟩)
abbrev s_cut : Stmt := topS 8
abbrev s_poly_parted : Stmt := topS 9
abbrev s_poly_at : Stmt := topS 10
abbrev s_root : Stmt := topS 13
abbrev s_small_primes : Stmt := topS 14
abbrev s_turned : Stmt := topS 15
abbrev s_check_poly : Stmt := topS 18
abbrev s_whole_root : Stmt := topS 19
abbrev s_pair_by : Stmt := topS 20
abbrev s_apart : Stmt := topS 21
abbrev s_det : Stmt := topS 23
abbrev s_power_sums : Stmt := topS 25
abbrev s_measure : Stmt := topS 26
abbrev s_mod_poly : Stmt := topS 28
abbrev s_mod_parted : Stmt := topS 29
abbrev s_mod_at : Stmt := topS 30
abbrev s_pair_of : Stmt := topS 32
abbrev s_rootless : Stmt := topS 33
abbrev s_split_by : Stmt := topS 34
abbrev s_square_primes : Stmt := topS 36
abbrev s_parts_of : Stmt := topS 37
abbrev s_divides_all : Stmt := topS 38
abbrev s_outside : Stmt := topS 39
abbrev s__law_cell : Stmt := topS 44
abbrev s__law_mixed : Stmt := topS 45
abbrev s__law_draws : Stmt := topS 46
abbrev s__law_whole : Stmt := topS 47
abbrev s__law_times_out : Stmt := topS 48
abbrev s__law_monic : Stmt := topS 49
abbrev s__law_pair : Stmt := topS 50
abbrev s__law_drawn : Stmt := topS 51
abbrev s__law_refused : Stmt := topS 52
abbrev s_law : Stmt := topS 53
abbrev s_Ring : Stmt := inClass (topS 42) 0
abbrev s_FallsApart : Stmt := inClass (topS 5) 0
abbrev s_NotWhole : Stmt := inClass (topS 6) 0
def tfl_left : List (Str × Bool) := [("FallsApart", true)]
def tfl_right : List (Str × Bool) := [("FallsApart", true)]
def tis_NoPolynomial : List (Str × Bool) := [("FallsApart", false)]
def tis_NotWhole : List (Str × Bool) := [("FallsApart", false)]
def tis_RingError : List (Str × Bool) := [("FallsApart", true)]
def tis_TooGreat : List (Str × Bool) := [("FallsApart", false)]
def tis_ValueError : List (Str × Bool) := [("FallsApart", true)]
def tbl_FallsApart : List (Str × Bool) := [("RingError", false), ("NoPolynomial", false), ("TooGreat", false), ("NoPrime", false), ("FallsApart", true), ("NotWhole", false)]
def tbl_RingError : List (Str × Bool) := [("RingError", true), ("NoPolynomial", true), ("TooGreat", true), ("NoPrime", true), ("FallsApart", true), ("NotWhole", true)]
abbrev N_cut : List Str := ["row", "many"]
abbrev N_poly_parted : List Str := ["f", "g", "degree", "left", "quotient", "at", "part", "j"]
abbrev N_poly_at : List Str := ["f", "x", "value", "place"]
abbrev N_root : List Str := ["m", "high", "low", "middle"]
abbrev N_small_primes : List Str := []
abbrev N_turned : List Str := ["a", "p", "one", "two", "first", "second", "part"]
abbrev N_check_poly : List Str := ["poly", "good", "place"]
abbrev N_whole_root : List Str := ["poly", "last", "size"]
abbrev N_pair_by : List Str := ["poly", "b", "d", "amid", "top", "a", "square"]
abbrev N_apart : List Str := ["poly", "at", "last", "size", "b", "found"]
abbrev N_det : List Str := ["table", "total", "i", "lower", "part", "row"]
abbrev N_power_sums : List Str := ["poly", "many", "degree", "sums", "k", "total", "i"]
abbrev N_measure : List Str := ["poly", "degree", "sums", "rows", "i", "j"]
abbrev N_mod_poly : List Str := ["row", "p", "place"]
abbrev N_mod_parted : List Str := ["a", "b", "p", "left", "by", "degree", "back", "quotient", "at", "part", "j"]
abbrev N_mod_at : List Str := ["f", "x", "p", "value", "place"]
abbrev N_pair_of : List Str := ["left", "p", "low", "one", "two", "three", "b", "d", "a"]
abbrev N_rootless : List Str := ["left", "p", "pair", "g"]
abbrev N_split_by : List Str := ["poly", "p", "left", "parts", "low", "often"]
abbrev N_square_primes : List Str := ["size", "p"]
abbrev N_parts_of : List Str := ["poly", "p", "parts", "g", "often"]
abbrev N_divides_all : List Str := ["m", "row", "place"]
abbrev N_outside : List Str := ["poly", "size", "p", "g", "often", "rest_by", "row", "place"]
abbrev N__law_cell : List Str := ["_law_script", "_law_k"]
abbrev N__law_mixed : List Str := ["_law_cell_here", "_law_k", "_law_prime", "_law_far"]
abbrev N__law_draws : List Str := ["_law_cell_here", "_law_widths", "_law_prime", "_law_left", "_law_found", "_law_k"]
abbrev N__law_whole : List Str := ["_law_found"]
abbrev N__law_times_out : List Str := ["_law_one", "_law_two", "_law_places", "_law_i", "_law_j"]
abbrev N__law_monic : List Str := ["_law_found", "_law_place"]
abbrev N__law_pair : List Str := ["_law_left", "_law_right", "_law_poly"]
abbrev N__law_drawn : List Str := ["_law_cell_here", "_law_deep", "_law_named", "_law_sides", "_law_found", "_law_places", "_law_left", "_law_right", "_law_place"]
abbrev N__law_refused : List Str := ["_law_poly", "_law_told", "_law_clean", "e"]
abbrev N_law : List Str := ["_law_script", "_law_k", "_law_poly", "_law_found"]
abbrev N_Ring : List Str := ["self", "poly", "found", "size", "lack"]
def c_PRIMES : (List Int) := [2, 3, 5, 7, 11, 13, 17, 19, 23, 29, 31, 37, 41, 43, 47, 53, 59, 61, 67, 71, 73, 79, 83, 89, 97, 101, 103, 107, 109, 113, 127, 131, 137, 139, 149, 151, 157, 163, 167, 173, 179, 181, 191, 193, 197, 199]
def c_LARGEST : Int := 499
def c_GREATEST : Int := 39999
/-! ### mirrors -/
noncomputable def m_cut (row1 : (List Int)) : M (List Int) :=
  (M.bind (ok (List.length row1 : Int)) fun many2 => (M.bind (whileM (fun (many3 : Int) => (M.bind (ok (decide (0 < many3))) fun z5 => if z5 = true then (M.bind (pget row1 (many3 - 1)) fun u4 => ok (decide (u4 = 0))) else ok false)) (fun (many3 : Int) => (M.bind (ok (many3 - 1)) fun many6 => ok (many6))) (many2)) fun many7 => (ok (cutL row1 none (some many7)))))
noncomputable def m_poly_parted (f1 : (List Int)) (g2 : (List Int)) : M ((List Int) × (List Int)) :=
  (M.bind (ok ((List.length g2 : Int) - 1)) fun degree3 => (M.bind (ok f1) fun left4 => (M.bind (ok ([] : List Int)) fun quotient5 => (M.bind (M.bind (prangeD (((List.length f1 : Int) - 1) - degree3) (-1)) fun xs => loopM (fun (s6 : (List Int) × (List Int)) at_7 => (M.bind (pget s6.1 (at_7 + degree3)) fun part8 => (M.bind (papp s6.2 part8) fun quotient9 => (M.bind (M.bind (prangeI (degree3 + 1)) fun xs => loopM (fun (left10 : (List Int)) j11 => (M.bind (M.bind (pget left10 (at_7 + j11)) fun u13 => M.bind (M.bind (pget g2 j11) fun u12 => (pmul part8 u12)) fun u15 => pset left10 (at_7 + j11) (u13 - u15)) fun left14 => ok (left14))) (s6.1) xs) fun left16 => ok (left16, quotient9))))) (left4, quotient5) xs) fun s17 => (M.bind (m_cut (List.reverse s17.2)) fun u18 => M.bind (m_cut (cutL s17.1 none (some degree3))) fun u19 => ok (u18, u19))))))
noncomputable def m_poly_at (f1 : (List Int)) (x2 : Int) : M Int :=
  (M.bind (ok 0) fun value3 => (M.bind (M.bind (ok (List.reverse f1)) fun xs => loopM (fun (value4 : Int) place5 => (M.bind (M.bind (pmul value4 x2) fun u7 => ok (u7 + place5)) fun value6 => ok (value6))) (value3) xs) fun value8 => (ok value8)))
noncomputable def m_root (m1 : Int) : M Int :=
  (M.bind (ok 1) fun high2 => (M.bind (whileM (fun (high3 : Int) => (M.bind (pmul high3 high3) fun u4 => ok (decide (u4 ≤ m1)))) (fun (high3 : Int) => (M.bind (ok (2 * high3)) fun high5 => ok (high5))) (high2)) fun high6 => (M.bind (ok 0) fun low7 => (M.bind (whileM (fun (s8 : Int × Int) => (ok (decide (1 < (s8.1 - s8.2))))) (fun (s8 : Int × Int) => (M.bind (ok ((s8.2 + s8.1) / 2)) fun middle9 => (M.bind (M.bind (pmul middle9 middle9) fun u10 => ok (decide (u10 ≤ m1))) fun z11 => if z11 = true then (M.bind (ok middle9) fun low12 => ok (s8.1, low12)) else (M.bind (ok middle9) fun high13 => ok (high13, s8.2))))) (high6, low7)) fun s14 => (ok s14.2)))))
noncomputable def m_small_primes  : M (List Int) :=
  (ok c_PRIMES)
noncomputable def m_turned (a1 : Int) (p2 : Int) : M Int :=
  (M.bind (pmod a1 p2) fun one3 => (M.bind (ok p2) fun two4 => (M.bind (ok 1) fun first5 => (M.bind (ok 0) fun second6 => (M.bind (whileM (fun (s7 : Int × Int × Int × Int) => (ok (decide (1 < s7.1)))) (fun (s7 : Int × Int × Int × Int) => (M.bind (pdiv s7.2.1 s7.1) fun part8 => (M.bind (M.bind (M.bind (pmul part8 s7.1) fun u9 => ok (s7.2.1 - u9)) fun u11 => ok (u11, s7.1)) fun p10 => (M.bind (M.bind (M.bind (pmul part8 s7.2.2.1) fun u12 => ok (s7.2.2.2 - u12)) fun u14 => ok (u14, s7.2.2.1)) fun p13 => ok (p10.1, p10.2, p13.1, p13.2))))) (one3, two4, first5, second6)) fun s15 => (pmod s15.2.2.1 p2))))))
noncomputable def m_check_poly (poly1 : (List Int)) : M Unit :=
  (M.bind (M.bind (if (decide (3 ≤ (List.length poly1 : Int))) = true then ok (decide ((List.length poly1 : Int) ≤ 5)) else ok false) fun z7 => if z7 = true then (M.bind (pget poly1 (-1)) fun u6 => ok (decide (u6 = 1))) else ok false) fun good2 => (M.bind (M.bind (ok good2) fun z8 => if z8 = true then (M.bind (M.bind (ok poly1) fun xs => loopM (fun (good9 : Bool) place10 => (M.bind (M.bind (ok (decide (place10 < (-c_LARGEST)))) fun z11 => if z11 = true then ok true else (ok (decide (c_LARGEST < place10)))) fun z12 => if z12 = true then (M.bind (ok false) fun good13 => ok (good13)) else ok (good9))) (good2) xs) fun good14 => ok (good14)) else ok (good2)) fun good15 => (M.bind (ok (!good15)) fun z16 => if z16 = true then (exc ⟨"NoPolynomial", []⟩) else ok ())))
noncomputable def m_whole_root (poly1 : (List Int)) : M (Option Int) :=
  (M.bind (M.bind (pget poly1 0) fun u3 => ok (Int.natAbs u3 : Int)) fun last2 => (M.bind (ok (decide (last2 = 0))) fun z4 => if z4 = true then (ok (some 0)) else (sq (ρ := (Option Int)) (M.bind (prange2 1 (last2 + 1)) fun xs => loopF (fun (s5 : Unit) size6 => (M.bind (M.bind (pmod last2 size6) fun u7 => ok (decide (u7 = 0))) fun z8 => if z8 = true then (M.bind (M.bind (m_poly_at poly1 size6) fun u9 => ok (decide (u9 = 0))) fun z10 => if z10 = true then M.bind (ok (some size6)) fun a14 => ok (Fl.rt a14) else (M.bind (M.bind (m_poly_at poly1 (-size6)) fun u11 => ok (decide (u11 = 0))) fun z12 => if z12 = true then (M.bind (ok (some (-size6))) fun a13 => ok (Fl.rt a13)) else ok (Fl.nx ()))) else ok (Fl.nx ()))) () xs) (fun s15 => (ok none)) (fun a => a))))
noncomputable def m_pair_by (poly1 : (List Int)) (b2 : Int) : M (Option ((List Int) × (List Int))) :=
  (M.bind (M.bind (pget poly1 0) fun u4 => (pdiv u4 b2)) fun d3 => (M.bind (M.bind (M.bind (pget poly1 2) fun u6 => ok (u6 - b2)) fun u7 => ok (u7 - d3)) fun amid5 => (M.bind (ok ((!decide (b2 = d3)))) fun z8 => if z8 = true then (M.bind (M.bind (pget poly1 1) fun u11 => M.bind (M.bind (pget poly1 3) fun u10 => (pmul b2 u10)) fun u12 => ok (u11 - u12)) fun top9 => (M.bind (M.bind (pmod top9 (d3 - b2)) fun u13 => ok ((!decide (u13 = 0)))) fun z14 => if z14 = true then (ok none) else (M.bind (pdiv top9 (d3 - b2)) fun a15 => (M.bind (M.bind (M.bind (M.bind (pget poly1 3) fun u16 => ok (u16 - a15)) fun u17 => (pmul a15 u17)) fun u18 => ok ((!decide (u18 = amid5)))) fun z19 => if z19 = true then (ok none) else (M.bind (M.bind (M.bind (M.bind (pget poly1 3) fun u20 => ok (u20 - a15)) fun u21 => psz [d3, u21, 1]) fun u22 => ok ([b2, a15, 1], u22)) fun u23 => ok (some u23)))))) else (M.bind (M.bind (pget poly1 1) fun u25 => M.bind (M.bind (pget poly1 3) fun u24 => (pmul b2 u24)) fun u26 => ok ((!decide (u25 = u26)))) fun z27 => if z27 = true then (ok none) else (M.bind (M.bind (M.bind (pget poly1 3) fun u29 => M.bind (pget poly1 3) fun u30 => (pmul u29 u30)) fun u31 => ok (u31 - (4 * amid5))) fun square28 => (M.bind (M.bind (ok (decide (square28 < 0))) fun z35 => if z35 = true then ok true else (M.bind (M.bind (m_root square28) fun u32 => M.bind (m_root square28) fun u33 => (pmul u32 u33)) fun u34 => ok ((!decide (u34 = square28))))) fun z36 => if z36 = true then (ok none) else (M.bind (M.bind (M.bind (pget poly1 3) fun u38 => M.bind (m_root square28) fun u39 => ok (u38 + u39)) fun u40 => ok (u40 / 2)) fun a37 => (M.bind (M.bind (M.bind (M.bind (pget poly1 3) fun u41 => ok (u41 - a37)) fun u42 => psz [d3, u42, 1]) fun u43 => ok ([b2, a37, 1], u43)) fun u44 => ok (some u44)))))))))
noncomputable def m_apart (poly1 : (List Int)) : M (Option ((List Int) × (List Int))) :=
  (M.bind (M.bind (m_check_poly poly1) fun _ => ok ()) fun _ => (M.bind (m_whole_root poly1) fun at_2 => (M.bind (ok (Option.isSome at_2)) fun z3 => if z3 = true then (M.bind (M.bind (M.bind (M.bind (unO at_2) fun u4 => ok (-u4)) fun u5 => psz [u5, 1]) fun u10 => M.bind (M.bind (M.bind (M.bind (M.bind (unO at_2) fun u6 => ok (-u6)) fun u7 => psz [u7, 1]) fun u8 => (m_poly_parted poly1 u8)) fun u9 => ok u9.1) fun u11 => ok (u10, u11)) fun u12 => ok (some u12)) else (sq (ρ := (Option ((List Int) × (List Int)))) (M.bind (ok (decide ((List.length poly1 : Int) = 5))) fun z13 => if z13 = true then (M.bind (M.bind (pget poly1 0) fun u15 => ok (Int.natAbs u15 : Int)) fun last14 => (sq (ρ := (Option ((List Int) × (List Int)))) (M.bind (prange2 1 (last14 + 1)) fun xs => loopF (fun (s16 : Unit) size17 => (M.bind (M.bind (pmod last14 size17) fun u18 => ok (decide (u18 = 0))) fun z19 => if z19 = true then (sq (ρ := (Option ((List Int) × (List Int)))) (M.bind (ok [size17, (-size17)]) fun xs => loopF (fun (s20 : Unit) b21 => (M.bind (m_pair_by poly1 b21) fun found22 => (M.bind (ok (Option.isSome found22)) fun z23 => if z23 = true then (M.bind (ok found22) fun a24 => ok (Fl.rt a24)) else ok (Fl.nx ())))) () xs) (fun s25 => ok (Fl.nx ())) (fun a => Fl.rt a)) else ok (Fl.nx ()))) () xs) (fun s26 => ok (Fl.nx ())) (fun a => Fl.rt a))) else ok (Fl.nx ())) (fun s27 => (ok none)) (fun a => a)))))
noncomputable def m_det_L : Nat → (List (List Int)) →  M Int
  | 0, _ => stuck
  | n + 1, table1 =>
  (M.bind (ok (decide ((List.length table1 : Int) = 1))) fun z2 => if z2 = true then (M.bind (pget table1 0) fun u3 => (pget u3 0)) else (M.bind (ok 0) fun total4 => (M.bind (M.bind (prangeI (List.length table1 : Int)) fun xs => loopM (fun (total5 : Int) i6 => (M.bind (M.bind (M.bind (pget table1 i6) fun u7 => (pget u7 0)) fun u8 => ok ((!decide (u8 = 0)))) fun z9 => if z9 = true then (M.bind (M.bind (pcat (cutL table1 none (some i6)) (cutL table1 (some (i6 + 1)) none)) fun xs => mapC (fun row11 => (ok (cutL row11 (some 1) none))) xs) fun lower10 => (M.bind (M.bind (M.bind (pget table1 i6) fun u13 => (pget u13 0)) fun u14 => M.bind (m_det_L n lower10) fun u15 => (pmul u14 u15)) fun part12 => (M.bind (M.bind (ok (decide ((i6 % 2) = 1))) fun z16 => if z16 = true then (M.bind (ok (-part12)) fun part17 => ok (part17)) else ok (part12)) fun part18 => (M.bind (ok (total5 + part18)) fun total19 => ok (total19))))) else ok (total5))) (total4) xs) fun total20 => (ok total20))))
noncomputable def m_det (table1 : (List (List Int))) : M Int :=
  (M.bind (ok (decide ((List.length table1 : Int) = 1))) fun z2 => if z2 = true then (M.bind (pget table1 0) fun u3 => (pget u3 0)) else (M.bind (ok 0) fun total4 => (M.bind (M.bind (prangeI (List.length table1 : Int)) fun xs => loopM (fun (total5 : Int) i6 => (M.bind (M.bind (M.bind (pget table1 i6) fun u7 => (pget u7 0)) fun u8 => ok ((!decide (u8 = 0)))) fun z9 => if z9 = true then (M.bind (M.bind (pcat (cutL table1 none (some i6)) (cutL table1 (some (i6 + 1)) none)) fun xs => mapC (fun row11 => (ok (cutL row11 (some 1) none))) xs) fun lower10 => (M.bind (M.bind (M.bind (pget table1 i6) fun u13 => (pget u13 0)) fun u14 => M.bind (m_det_L 5 lower10) fun u15 => (pmul u14 u15)) fun part12 => (M.bind (M.bind (ok (decide ((i6 % 2) = 1))) fun z16 => if z16 = true then (M.bind (ok (-part12)) fun part17 => ok (part17)) else ok (part12)) fun part18 => (M.bind (ok (total5 + part18)) fun total19 => ok (total19))))) else ok (total5))) (total4) xs) fun total20 => (ok total20))))
noncomputable def m_power_sums (poly1 : (List Int)) (many2 : Int) : M (List Int) :=
  (M.bind (ok ((List.length poly1 : Int) - 1)) fun degree3 => (M.bind (ok [degree3]) fun sums4 => (M.bind (M.bind (prange2 1 many2) fun xs => loopM (fun (sums5 : (List Int)) k6 => (M.bind (ok 0) fun total7 => (M.bind (M.bind (prange2 1 (min k6 (degree3 + 1))) fun xs => loopM (fun (total8 : Int) i9 => (M.bind (M.bind (M.bind (pget poly1 (degree3 - i9)) fun u11 => M.bind (pget sums5 (k6 - i9)) fun u12 => (pmul u11 u12)) fun u13 => ok (total8 - u13)) fun total10 => ok (total10))) (total7) xs) fun total14 => (M.bind (M.bind (ok (decide (k6 ≤ degree3))) fun z15 => if z15 = true then (M.bind (M.bind (M.bind (pget poly1 (degree3 - k6)) fun u17 => (pmul k6 u17)) fun u18 => ok (total14 - u18)) fun total16 => ok (total16)) else ok (total14)) fun total19 => (M.bind (papp sums5 total19) fun sums20 => ok (sums20)))))) (sums4) xs) fun sums21 => ok sums21)))
noncomputable def m_measure (poly1 : (List Int)) : M Int :=
  (M.bind (M.bind (m_check_poly poly1) fun _ => ok ()) fun _ => (M.bind (ok ((List.length poly1 : Int) - 1)) fun degree2 => (M.bind (m_power_sums poly1 ((2 * degree2) - 1)) fun sums3 => (M.bind (ok ([] : List (List Int))) fun rows4 => (M.bind (M.bind (prangeI degree2) fun xs => loopM (fun (rows5 : (List (List Int))) i6 => (M.bind (M.bind (M.bind (prangeI degree2) fun xs => mapC (fun j7 => (pget sums3 (i6 + j7))) xs) fun u8 => (papp rows5 u8)) fun rows9 => ok (rows9))) (rows4) xs) fun rows10 => (m_det rows10))))))
noncomputable def m_mod_poly (row1 : (List Int)) (p2 : Int) : M (List Int) :=
  (M.bind (mapC (fun place3 => (pmod place3 p2)) row1) fun u4 => (m_cut u4))
noncomputable def m_mod_parted (a1 : (List Int)) (b2 : (List Int)) (p3 : Int) : M ((List Int) × (List Int)) :=
  (M.bind (m_mod_poly a1 p3) fun left4 => (M.bind (m_mod_poly b2 p3) fun by_5 => (M.bind (ok ((List.length by_5 : Int) - 1)) fun degree6 => (M.bind (M.bind (pget by_5 degree6) fun u8 => (m_turned u8 p3)) fun back7 => (M.bind (ok ([] : List Int)) fun quotient9 => (M.bind (M.bind (prangeD (((List.length left4 : Int) - 1) - degree6) (-1)) fun xs => loopM (fun (s10 : (List Int) × (List Int)) at_11 => (M.bind (M.bind (M.bind (pget s10.1 (at_11 + degree6)) fun u13 => (pmul u13 back7)) fun u14 => (pmod u14 p3)) fun part12 => (M.bind (papp s10.2 part12) fun quotient15 => (M.bind (M.bind (prangeI (degree6 + 1)) fun xs => loopM (fun (left16 : (List Int)) j17 => (M.bind (M.bind (M.bind (M.bind (pget left16 (at_11 + j17)) fun u19 => M.bind (M.bind (pget by_5 j17) fun u18 => (pmul part12 u18)) fun u20 => ok (u19 - u20)) fun u21 => (pmod u21 p3)) fun u23 => (pset left16 (at_11 + j17) u23)) fun left22 => ok (left22))) (s10.1) xs) fun left24 => ok (left24, quotient15))))) (left4, quotient9) xs) fun s25 => (M.bind (m_cut (List.reverse s25.2)) fun u26 => M.bind (m_cut (cutL s25.1 none (some degree6))) fun u27 => ok (u26, u27))))))))
noncomputable def m_mod_at (f1 : (List Int)) (x2 : Int) (p3 : Int) : M Int :=
  (M.bind (ok 0) fun value4 => (M.bind (M.bind (ok (List.reverse f1)) fun xs => loopM (fun (value5 : Int) place6 => (M.bind (M.bind (M.bind (pmul value5 x2) fun u8 => ok (u8 + place6)) fun u9 => (pmod u9 p3)) fun value7 => ok (value7))) (value4) xs) fun value10 => (ok value10)))
noncomputable def m_pair_of (left1 : (List Int)) (p2 : Int) : M (Option (List (List Int))) :=
  (M.bind (asRec4 (cutL left1 none (some 4))) fun p3 => (sq (ρ := (Option (List (List Int)))) (M.bind (prange2 1 p2) fun xs => loopF (fun (s4 : Unit) b5 => (M.bind (M.bind (M.bind (m_turned b5 p2) fun u7 => (pmul p3.1 u7)) fun u8 => (pmod u8 p2)) fun d6 => (M.bind (ok ((!decide (b5 = d6)))) fun z9 => if z9 = true then (M.bind (M.bind (M.bind (M.bind (pmul b5 p3.2.2.2) fun u11 => ok (p3.2.1 - u11)) fun u12 => M.bind (m_turned (d6 - b5) p2) fun u13 => (pmul u12 u13)) fun u14 => (pmod u14 p2)) fun a10 => (M.bind (M.bind (M.bind (M.bind (M.bind (M.bind (pmul a10 (p3.2.2.2 - a10)) fun u15 => ok (u15 + b5)) fun u16 => ok (u16 + d6)) fun u17 => ok (u17 - p3.2.2.1)) fun u18 => (pmod u18 p2)) fun u19 => ok (decide (u19 = 0))) fun z20 => if z20 = true then (M.bind (M.bind (M.bind (M.bind (pmod (p3.2.2.2 - a10) p2) fun u21 => psz [d6, u21, 1]) fun u22 => psz [[b5, a10, 1], u22]) fun u23 => ok (some u23)) fun a24 => ok (Fl.rt a24)) else ok (Fl.nx ()))) else (M.bind (M.bind (M.bind (M.bind (pmul b5 p3.2.2.2) fun u25 => ok (p3.2.1 - u25)) fun u26 => (pmod u26 p2)) fun u27 => ok (decide (u27 = 0))) fun z28 => if z28 = true then (sq (ρ := (Option (List (List Int)))) (M.bind (prangeI p2) fun xs => loopF (fun (s29 : Unit) a30 => (M.bind (M.bind (M.bind (M.bind (M.bind (M.bind (pmul a30 (p3.2.2.2 - a30)) fun u31 => ok (u31 + b5)) fun u32 => ok (u32 + d6)) fun u33 => ok (u33 - p3.2.2.1)) fun u34 => (pmod u34 p2)) fun u35 => ok (decide (u35 = 0))) fun z36 => if z36 = true then (M.bind (M.bind (M.bind (M.bind (pmod (p3.2.2.2 - a30) p2) fun u37 => psz [d6, u37, 1]) fun u38 => psz [[b5, a30, 1], u38]) fun u39 => ok (some u39)) fun a40 => ok (Fl.rt a40)) else ok (Fl.nx ()))) () xs) (fun s41 => ok (Fl.nx ())) (fun a => Fl.rt a)) else ok (Fl.nx ()))))) () xs) (fun s42 => (ok none)) (fun a => a)))
noncomputable def m_rootless (left1 : (List Int)) (p2 : Int) : M (List ((List Int) × Int)) :=
  (M.bind (ok none) fun pair3 => (M.bind (M.bind (ok (decide ((List.length left1 : Int) = 5))) fun z4 => if z4 = true then (M.bind (m_pair_of left1 p2) fun pair5 => ok (pair5)) else ok (pair3)) fun pair6 => (M.bind (ok (Option.isNone pair6)) fun z7 => if z7 = true then (ok [(left1, 1)]) else (M.bind (M.bind (M.bind (unO pair6) fun u8 => (pget u8 0)) fun u10 => M.bind (M.bind (unO pair6) fun u9 => (pget u9 1)) fun u11 => ok (decide (u10 = u11))) fun z12 => if z12 = true then (M.bind (M.bind (M.bind (unO pair6) fun u13 => (pget u13 0)) fun u14 => ok (u14, 2)) fun u15 => psz [u15]) else (M.bind (M.bind (unO pair6) fun u16 => (psortT u16)) fun xs => mapC (fun g17 => (ok (g17, 1))) xs)))))
noncomputable def m_split_by (poly1 : (List Int)) (p2 : Int) : M (List ((List Int) × Int)) :=
  (M.bind (ok (!decide (p2 ∈ c_PRIMES))) fun z3 => if z3 = true then (exc ⟨"NoPrime", []⟩) else (M.bind (m_mod_poly poly1 p2) fun left4 => (M.bind (ok ([] : List ((List Int) × Int))) fun parts5 => (M.bind (M.bind (prangeI p2) fun xs => loopM (fun (s6 : (List Int) × (List ((List Int) × Int))) low7 => (M.bind (ok 0) fun often8 => (M.bind (whileM (fun (s9 : (List Int) × Int) => (M.bind (ok (decide (1 < (List.length s9.1 : Int)))) fun z11 => if z11 = true then (M.bind (m_mod_at s9.1 (-low7) p2) fun u10 => ok (decide (u10 = 0))) else ok false)) (fun (s9 : (List Int) × Int) => (M.bind (M.bind (m_mod_parted s9.1 [low7, 1] p2) fun u13 => ok u13.1) fun left12 => (M.bind (ok (s9.2 + 1)) fun often14 => ok (left12, often14)))) (s6.1, often8)) fun s15 => (M.bind (ok (decide (0 < s15.2))) fun z16 => if z16 = true then (M.bind (papp s6.2 ([low7, 1], s15.2)) fun parts17 => ok (s15.1, parts17)) else ok (s15.1, s6.2))))) (left4, parts5) xs) fun s18 => (M.bind (M.bind (ok (decide (1 < (List.length s18.1 : Int)))) fun z19 => if z19 = true then (M.bind (M.bind (m_rootless s18.1 p2) fun u21 => (pcat s18.2 u21)) fun parts20 => ok (parts20)) else ok (s18.2)) fun parts22 => ok parts22)))))
noncomputable def m_square_primes (size1 : Int) : M (List Int) :=
  (M.bind m_small_primes fun xs => compL (fun p2 => (M.bind (M.bind (pmul p2 p2) fun u3 => (pmod size1 u3)) fun u4 => ok (decide (u4 = 0)))) (fun p2 => (ok p2)) xs)
noncomputable def m_parts_of (poly1 : (List Int)) (p2 : Int) : M (List ((List Int) × Int × (List Int))) :=
  (M.bind (ok ([] : List ((List Int) × Int × (List Int)))) fun parts3 => (M.bind (M.bind (m_split_by poly1 p2) fun xs => loopM (fun (parts4 : (List ((List Int) × Int × (List Int)))) x5 => (M.bind (M.bind (M.bind (M.bind (m_poly_parted poly1 x5.1) fun u6 => ok u6.2) fun u7 => ok (x5.1, x5.2, u7)) fun u8 => (papp parts4 u8)) fun parts9 => ok (parts9))) (parts3) xs) fun parts10 => ok parts10))
noncomputable def m_divides_all (m1 : Int) (row2 : (List Int)) : M Bool :=
  (M.bind (mapC (fun place3 => (M.bind (pmod place3 m1) fun u4 => ok (decide (u4 = 0)))) row2) fun u5 => ok (List.all u5 id))
noncomputable def m_outside (poly1 : (List Int)) (size2 : Int) : M (Option (Int × (List Int))) :=
  (sq (ρ := (Option (Int × (List Int)))) (M.bind (m_square_primes size2) fun xs => loopF (fun (s3 : Unit) p4 => (sq (ρ := (Option (Int × (List Int)))) (M.bind (m_parts_of poly1 p4) fun xs => loopF (fun (s5 : Unit) x6 => (M.bind (M.bind (ok (decide (2 ≤ x6.2.1))) fun z8 => if z8 = true then (M.bind (pmul p4 p4) fun u7 => (m_divides_all u7 x6.2.2)) else ok false) fun z9 => if z9 = true then (M.bind (M.bind (M.bind (m_poly_parted poly1 x6.1) fun u11 => ok u11.1) fun xs => mapC (fun place12 => (pmod place12 p4)) xs) fun row10 => (M.bind (whileM (fun (row13 : (List Int)) => (ok (decide ((List.length row13 : Int) < ((List.length poly1 : Int) - 1))))) (fun (row13 : (List Int)) => (M.bind (papp row13 0) fun row14 => ok (row14))) (row10)) fun row15 => (M.bind (ok (some (p4, row15))) fun a16 => ok (Fl.rt a16)))) else ok (Fl.nx ()))) () xs) (fun s17 => ok (Fl.nx ())) (fun a => Fl.rt a))) () xs) (fun s18 => (ok none)) (fun a => a))
noncomputable def m_Ring (poly2 : (List Int)) : M Rg :=
  (M.bind (m_apart poly2) fun found3 => (M.bind (M.bind (ok (Option.isSome found3)) fun z4 => if z4 = true then (M.bind (M.bind (unO found3) fun u5 => ok u5.1) fun u7 => M.bind (M.bind (unO found3) fun u6 => ok u6.2) fun u8 => (exc ⟨"FallsApart", [("right", XF.row u8), ("left", XF.row u7)]⟩)) else ok ()) fun s9 => (M.bind (m_measure poly2) fun size10 => (M.bind (M.bind (ok (decide (c_GREATEST < (Int.natAbs size10 : Int)))) fun z11 => if z11 = true then (exc ⟨"TooGreat", []⟩) else ok ()) fun s12 => (M.bind (m_outside poly2 size10) fun lack13 => (M.bind (M.bind (ok (Option.isSome lack13)) fun z14 => if z14 = true then (M.bind (M.bind (unO lack13) fun u15 => ok u15.1) fun u17 => M.bind (M.bind (unO lack13) fun u16 => ok u16.2) fun u18 => (exc ⟨"NotWhole", [("number", XF.row u18), ("prime", XF.int u17)]⟩)) else ok ()) fun s19 => (M.bind (ok poly2) fun poly20 => (M.bind (ok ((List.length poly2 : Int) - 1)) fun degree21 => (M.bind (ok size10) fun measure22 => ok (poly20, degree21, measure22))))))))))
noncomputable def m__law_cell (script1 : (List Int)) (k2 : Int) : M Int :=
  (M.bind (ok (decide ((List.length script1 : Int) = 0))) fun z3 => if z3 = true then (ok (7919 * (k2 + 1))) else (M.bind (ok (decide (k2 < (List.length script1 : Int)))) fun z4 => if z4 = true then (pget script1 k2) else (M.bind (M.bind (pmod k2 (List.length script1 : Int)) fun u5 => (pget script1 u5)) fun u6 => ok (u6 + (104729 * k2)))))
noncomputable def m__law_mixed (cell_here1 : Int) (k2 : Int) (prime3 : Int) : M Int :=
  (M.bind (M.bind (M.bind (M.bind (M.bind (M.bind (pmul (7 * k2) k2) fun u5 => ok (cell_here1 + u5)) fun u6 => ok (u6 + (13 * k2))) fun u7 => ok (u7 + 5)) fun u8 => ok (u8 * 48271)) fun u9 => ok (u9 % 2147483647)) fun far4 => (M.bind (M.bind (pmul far4 far4) fun u11 => ok (u11 % 2147483629)) fun far10 => (pmod (far10 * 39373) prime3)))
noncomputable def m__law_draws (cell_here1 : Int) (widths2 : (List Int)) (prime3 : Int) : M (List Int) :=
  (M.bind (ok 0) fun left4 => (M.bind (M.bind (ok (decide (1000000000000000000 ≤ cell_here1))) fun z5 => if z5 = true then (M.bind (ok (cell_here1 - 1000000000000000000)) fun left6 => ok (left6)) else ok (left4)) fun left7 => (M.bind (ok ([] : List Int)) fun found8 => (M.bind (M.bind (prangeI (List.length widths2 : Int)) fun xs => loopM (fun (s9 : Int × (List Int)) k10 => (M.bind (ok (decide (1 < s9.1))) fun z11 => if z11 = true then (M.bind (M.bind (M.bind (pget widths2 k10) fun u12 => (pmod s9.1 u12)) fun u13 => (papp s9.2 u13)) fun found14 => (M.bind (M.bind (pget widths2 k10) fun u16 => (pdiv s9.1 u16)) fun left15 => ok (left15, found14))) else (M.bind (M.bind (M.bind (m__law_mixed cell_here1 k10 prime3) fun u17 => M.bind (pget widths2 k10) fun u18 => (pmod u17 u18)) fun u19 => (papp s9.2 u19)) fun found20 => ok (s9.1, found20)))) (left7, found8) xs) fun s21 => ok s21.2))))
noncomputable def m__law_whole (found1 : Int) : M Bool :=
  (M.bind (ok true) fun z2 => if z2 = true then (ok (!false)) else ok false)
noncomputable def m__law_times_out (one1 : (List Int)) (two2 : (List Int)) : M (List Int) :=
  (M.bind (prep [0] (((List.length one1 : Int) + (List.length two2 : Int)) - 1)) fun places3 => (M.bind (M.bind (prangeI (List.length one1 : Int)) fun xs => loopM (fun (places4 : (List Int)) i5 => (M.bind (M.bind (prangeI (List.length two2 : Int)) fun xs => loopM (fun (places6 : (List Int)) j7 => (M.bind (M.bind (M.bind (pget places6 (i5 + j7)) fun u10 => M.bind (M.bind (pget one1 i5) fun u8 => M.bind (pget two2 j7) fun u9 => (pmul u8 u9)) fun u11 => ok (u10 + u11)) fun u13 => (pset places6 (i5 + j7) u13)) fun places12 => ok (places12))) (places4) xs) fun places14 => ok (places14))) (places3) xs) fun places15 => (ok places15)))
noncomputable def m__law_monic (found1 : (List Int)) : M Bool :=
  (M.bind (M.bind (ok (!true)) fun z2 => if z2 = true then ok true else (ok (decide ((List.length found1 : Int) < 2)))) fun z3 => if z3 = true then (ok false) else (M.bind (M.bind (mapC (fun place4 => (m__law_whole place4)) found1) fun u5 => ok (List.all u5 id)) fun z7 => if z7 = true then (M.bind (pget found1 (-1)) fun u6 => ok (decide (u6 = 1))) else ok false))
noncomputable def m__law_pair (left1 : (List Int)) (right2 : (List Int)) (poly3 : (List Int)) : M Bool :=
  (M.bind (M.bind (M.bind (m__law_monic left1) fun u4 => ok (!u4)) fun z6 => if z6 = true then ok true else (M.bind (m__law_monic right2) fun u5 => ok (!u5))) fun z7 => if z7 = true then (ok false) else (M.bind (m__law_times_out left1 right2) fun u8 => ok (decide (u8 = poly3))))
noncomputable def m__law_drawn (cell_here1 : Int) : M (List Int) :=
  (M.bind (m__law_draws cell_here1 [3, 6, 4] 999999937) fun deep2 => (M.bind (M.bind (pget deep2 0) fun u3 => ok (decide (u3 = 2))) fun z4 => if z4 = true then (M.bind (ok [[0, 499, 1], [(-499), 498, 1], [0, 0, 1], [4, 0, 0, 0, 1], [(-499), 1, (-499), 1], [6, 0, (-5), 0, 1]]) fun named5 => (M.bind (pget deep2 1) fun u6 => (pget named5 u6))) else (M.bind (M.bind (pget deep2 1) fun u8 => (pget [[1, 1], [1, 2], [2, 1], [1, 3], [3, 1], [2, 2]] u8)) fun sides7 => (M.bind (m__law_draws cell_here1 [3, 6, 4, 31, 31, 31, 31] 999999937) fun found9 => (M.bind (mapC (fun place11 => (ok (place11 - 15))) (cutL found9 (some 3) none)) fun places10 => (M.bind (M.bind (M.bind (pget sides7 0) fun u13 => ok (cutL places10 none (some u13))) fun u14 => (pcat u14 [1])) fun left12 => (M.bind (M.bind (M.bind (pget sides7 0) fun u18 => M.bind (M.bind (pget sides7 0) fun u16 => M.bind (pget sides7 1) fun u17 => ok (u16 + u17)) fun u19 => ok (cutL places10 (some u18) (some u19))) fun u20 => (pcat u20 [1])) fun right15 => (M.bind (M.bind (M.bind (M.bind (pget deep2 2) fun u21 => ok (decide (u21 = 0))) fun z24 => if z24 = true then (M.bind (pget sides7 0) fun u22 => M.bind (pget sides7 1) fun u23 => ok (decide (u22 = u23))) else ok false) fun z25 => if z25 = true then (M.bind (ok left12) fun right26 => ok (right26)) else ok (right15)) fun right27 => (m__law_times_out left12 right27)))))))))
noncomputable def m__law_refused (poly1 : (List Int)) : M Bool :=
  (M.bind (ok (([] : List Int), ([] : List Int))) fun told2 => (M.bind (ok false) fun clean3 => (M.bind (tryH [(tbl_FallsApart, fun e5 : Ex => (M.bind (M.bind (fldRow tfl_left "left" e5) fun u7 => M.bind (fldRow tfl_right "right" e5) fun u8 => ok (u7, u8)) fun told6 => (M.bind (M.bind (exIsF tis_RingError e5) fun z12 => if z12 = true then (M.bind (exIsF tis_ValueError e5) fun z11 => if z11 = true then (M.bind (exIsF tis_NoPolynomial e5) fun u10 => ok (!u10)) else ok false) else ok false) fun clean9 => (M.bind (M.bind (ok clean9) fun z17 => if z17 = true then (M.bind (M.bind (exIsF tis_NotWhole e5) fun u14 => ok (!u14)) fun z16 => if z16 = true then (M.bind (exIsF tis_TooGreat e5) fun u15 => ok (!u15)) else ok false) else ok false) fun clean13 => ok (told6, clean13))))), (tbl_RingError, fun _ : Ex => (M.bind (ok false) fun clean18 => ok (told2, clean18)))] (M.bind (M.bind (m_Ring poly1) fun _ => ok ()) fun _ => ok (told2, clean3))) fun s19 => (M.bind (ok s19.2) fun z20 => if z20 = true then (m__law_pair s19.1.1 s19.1.2 poly1) else ok false))))
noncomputable def m_law (script1 : (List Int)) : M Bool :=
  (sq (ρ := Bool) (M.bind (ok (rangeL 0 2)) fun xs => loopF (fun (s2 : Unit) k3 => (M.bind (M.bind (m__law_cell script1 k3) fun u5 => (m__law_drawn u5)) fun poly4 => (M.bind (m_apart poly4) fun found6 => (M.bind (M.bind (ok (!(Option.isSome found6))) fun z9 => if z9 = true then ok true else (M.bind (M.bind (unO found6) fun u7 => ok 2) fun u8 => ok ((!decide (u8 = 2))))) fun z10 => if z10 = true then M.bind (ok false) fun a20 => ok (Fl.rt a20) else (M.bind (M.bind (M.bind (M.bind (M.bind (unO found6) fun u11 => ok u11.1) fun u13 => M.bind (M.bind (unO found6) fun u12 => ok u12.2) fun u14 => (m__law_pair u13 u14 poly4)) fun u15 => ok (!u15)) fun z17 => if z17 = true then ok true else (M.bind (m__law_refused poly4) fun u16 => ok (!u16))) fun z18 => if z18 = true then (M.bind (ok false) fun a19 => ok (Fl.rt a19)) else ok (Fl.nx ())))))) () xs) (fun s21 => (ok true)) (fun a => a))
/-! ### walks -/
structure Facts (K : Fr) (mg : Str → Option Value) : Prop where
  d_cut : DefAt K mg "cut" s_cut
  d_poly_parted : DefAt K mg "poly_parted" s_poly_parted
  d_poly_at : DefAt K mg "poly_at" s_poly_at
  d_root : DefAt K mg "root" s_root
  d_small_primes : DefAt K mg "small_primes" s_small_primes
  d_turned : DefAt K mg "turned" s_turned
  d_check_poly : DefAt K mg "check_poly" s_check_poly
  d_whole_root : DefAt K mg "whole_root" s_whole_root
  d_pair_by : DefAt K mg "pair_by" s_pair_by
  d_apart : DefAt K mg "apart" s_apart
  d_det : DefAt K mg "det" s_det
  d_power_sums : DefAt K mg "power_sums" s_power_sums
  d_measure : DefAt K mg "measure" s_measure
  d_mod_poly : DefAt K mg "mod_poly" s_mod_poly
  d_mod_parted : DefAt K mg "mod_parted" s_mod_parted
  d_mod_at : DefAt K mg "mod_at" s_mod_at
  d_pair_of : DefAt K mg "pair_of" s_pair_of
  d_rootless : DefAt K mg "rootless" s_rootless
  d_split_by : DefAt K mg "split_by" s_split_by
  d_square_primes : DefAt K mg "square_primes" s_square_primes
  d_parts_of : DefAt K mg "parts_of" s_parts_of
  d_divides_all : DefAt K mg "divides_all" s_divides_all
  d_outside : DefAt K mg "outside" s_outside
  d__law_cell : DefAt K mg "_law_cell" s__law_cell
  d__law_mixed : DefAt K mg "_law_mixed" s__law_mixed
  d__law_draws : DefAt K mg "_law_draws" s__law_draws
  d__law_whole : DefAt K mg "_law_whole" s__law_whole
  d__law_times_out : DefAt K mg "_law_times_out" s__law_times_out
  d__law_monic : DefAt K mg "_law_monic" s__law_monic
  d__law_pair : DefAt K mg "_law_pair" s__law_pair
  d__law_drawn : DefAt K mg "_law_drawn" s__law_drawn
  d__law_refused : DefAt K mg "_law_refused" s__law_refused
  d_law : DefAt K mg "law" s_law
  c_Ring : ClsAt K mg "Ring" "Ring.__init__" s_Ring ["poly", "degree", "measure"]
  x_NoPolynomial : XPl K mg "NoPolynomial"
  x_NoPrime : XPl K mg "NoPrime"
  x_TooGreat : XPl K mg "TooGreat"
  i_FallsApart : XIAt K mg "FallsApart" "FallsApart.__init__" s_FallsApart ["left", "right"]
  i_NotWhole : XIAt K mg "NotWhole" "NotWhole.__init__" s_NotWhole ["prime", "number"]
  sub_FallsApart : XSub K mg "FallsApart" tbl_FallsApart
  sub_RingError : XSub K mg "RingError" tbl_RingError
  fld_left : XFld K mg "left" tfl_left
  fld_right : XFld K mg "right" tfl_right
  isi_NoPolynomial : XIsi K mg "NoPolynomial" tis_NoPolynomial
  isi_NotWhole : XIsi K mg "NotWhole" tis_NotWhole
  isi_RingError : XIsi K mg "RingError" tis_RingError
  isi_TooGreat : XIsi K mg "TooGreat" tis_TooGreat
  isi_ValueError : XIsi K mg "ValueError" tis_ValueError
  n_abs : mg "abs" = none
  n_all : mg "all" = none
  n_bool : mg "bool" = none
  n_int : mg "int" = none
  n_isinstance : mg "isinstance" = none
  n_len : mg "len" = none
  n_list : mg "list" = none
  n_min : mg "min" = none
  n_range : mg "range" = none
  n_reversed : mg "reversed" = none
  n_sorted : mg "sorted" = none
  n_tuple : mg "tuple" = none
  g_PRIMES : GlobD K mg "PRIMES" (tRow tInt) c_PRIMES
  g_LARGEST : GlobD K mg "LARGEST" tInt c_LARGEST
  g_GREATEST : GlobD K mg "GREATEST" tInt c_GREATEST
section
variable {P : Program} {w : World} {K : Fr} {mg : Str → Option Value} {base : Heap}
theorem xi_FallsApart (T : Facts K mg) : XI2 P w K mg base "FallsApart" "left" "right" :=
  xi2_of T.i_FallsApart ⟨rfl, rfl, rfl, by decide +kernel, rfl, by decide +kernel, by decide +kernel⟩ (fun _ _ _ _ _ _ us hl => match us, hl with | [_, _, _], _ => rfl) fun fI cdv A outer s H E => pss_cons (ps_ost (pe_var (i := 0) rfl (.inl rfl)) (pe_var (i := 1) rfl (.inl rfl))) (pss_one (ps_ost (pe_var (i := 0) rfl (.inl rfl)) (pe_var (i := 2) rfl (.inl rfl))))
theorem xi_NotWhole (T : Facts K mg) : XI2 P w K mg base "NotWhole" "prime" "number" :=
  xi2_of T.i_NotWhole ⟨rfl, rfl, rfl, by decide +kernel, rfl, by decide +kernel, by decide +kernel⟩ (fun _ _ _ _ _ _ us hl => match us, hl with | [_, _, _], _ => rfl) fun fI cdv A outer s H E => pss_cons (ps_ost (pe_var (i := 0) rfl (.inl rfl)) (pe_var (i := 1) rfl (.inl rfl))) (pss_one (ps_ost (pe_var (i := 0) rfl (.inl rfl)) (pe_var (i := 2) rfl (.inl rfl))))
theorem sc_cut : FnScope N_cut ["row"] (defScope s_cut) := ⟨rfl, rfl, rfl, by decide +kernel, rfl, by decide +kernel, by decide +kernel⟩
theorem fx_cut (T : Facts K mg) : Fx P w K mg base "cut" 1 (.cons (tLst tInt) .nil) (dat (tRow tInt)) (fun t => m_cut t.1) :=
  fx_ret N_cut ["row"] T.d_cut sc_cut rfl (fun _ _ _ _ _ _ us hl => match us, hl with | [_], _ => rfl) fun cdv f A outer s H E t => (J_cons (S_set 1 (E_eq (E_lenL T.n_len (E_bor (E_var 0))) (by first | with_reducible rfl | (simp only [bind_okS]; done) | (simp only [bind_okS, bind_ret]; done) | (simp only [bind_okS, bind_ret, bind_bind]; done)))) fun many2 => (J_cons (S_while (Γl := fun many3 : Int => [eD 0 (tLst tInt) t.1, eD 1 tInt many3]) [0, 1] (many2) (fun many3 => (B_eq (B_w (W_and (B_cmp op_gt (cp_gt _) (nomark _) (E_var 1) E_int) (W_and1 (B_cmp op_eq (cp_eq _) (nomark _) (E_ixL (E_bor (E_var 0)) (E_sub (E_var 1) E_int)) E_int)))) (by first | with_reducible rfl | (simp only [bind_okS]; done) | (simp only [bind_okS, bind_ret]; done) | (simp only [bind_okS, bind_ret, bind_bind]; done)))) (fun many3 => (J_cons (S_set 1 (E_eq (E_sub (E_var 1) E_int) (by first | with_reducible rfl | (simp only [bind_okS]; done) | (simp only [bind_okS, bind_ret]; done) | (simp only [bind_okS, bind_ret, bind_bind]; done)))) fun many6 => (J_nil [0, 1] (many6))))) fun many7 => (J_last (S_retT (E_eq (E_tupleL T.n_tuple (E_borF (E_slL (E_bor (E_var 0)) O_none (O_some (E_var 1))))) (by first | with_reducible rfl | (simp only [bind_okS]; done) | (simp only [bind_okS, bind_ret]; done) | (simp only [bind_okS, bind_ret, bind_bind]; done)))))))
theorem sc_poly_parted : FnScope N_poly_parted ["f", "g"] (defScope s_poly_parted) := ⟨rfl, rfl, rfl, by decide +kernel, rfl, by decide +kernel, by decide +kernel⟩
theorem fx_poly_parted (T : Facts K mg) : Fx P w K mg base "poly_parted" 2 (.cons (tRow tInt) (.cons (tRow tInt) .nil)) (dat (tRec2 (tRow tInt) (tRow tInt))) (fun t => m_poly_parted t.1 t.2.1) :=
  fx_ret N_poly_parted ["f", "g"] T.d_poly_parted sc_poly_parted rfl (fun _ _ _ _ _ _ us hl => match us, hl with | [_, _], _ => rfl) fun cdv f A outer s H E t => (J_cons (S_set 2 (E_eq (E_sub (E_lenT T.n_len (E_var 1)) E_int) (by first | with_reducible rfl | (simp only [bind_okS]; done) | (simp only [bind_okS, bind_ret]; done) | (simp only [bind_okS, bind_ret, bind_bind]; done)))) fun degree3 => (J_cons (S_setO 3 (E_eq (E_listT T.n_list (E_var 0)) (by first | with_reducible rfl | (simp only [bind_okS]; done) | (simp only [bind_okS, bind_ret]; done) | (simp only [bind_okS, bind_ret, bind_bind]; done)))) fun left4 => (J_cons (S_setO 4 (E_eq (E_eq (E_lst I_nil) (psz_w (xs := ([] : List Int)) rfl)) (by first | with_reducible rfl | (simp only [bind_okS]; done) | (simp only [bind_okS, bind_ret]; done) | (simp only [bind_okS, bind_ret, bind_bind]; done)))) fun quotient5 => (J_cons (S_for (Γl := fun s6 : (List Int) × (List Int) => [eD 1 (tRow tInt) t.2.1, eD 2 tInt degree3, eO 3 tInt s6.1, eO 4 tInt s6.2]) [1, 2, 3, 4] (left4, quotient5) (I_eq (I_rangeD T.n_range (E_sub (E_sub (E_lenT T.n_len (E_var 0)) E_int) (E_var 2)) (E_neg E_int)) (by first | with_reducible rfl | (simp only [bind_okS]; done) | (simp only [bind_okS, bind_ret]; done) | (simp only [bind_okS, bind_ret, bind_bind]; done))) (G_name 5) (fun s6 at_7 => (J_cons (S_set 6 (E_eq (E_ixL (E_own 3) (E_add (E_var 5) (E_var 2))) (by first | with_reducible rfl | (simp only [bind_okS]; done) | (simp only [bind_okS, bind_ret]; done) | (simp only [bind_okS, bind_ret, bind_bind]; done)))) fun part8 => (J_cons (S_eq (S_append 4 (E_var 6)) (by first | with_reducible rfl | (simp only [bind_okS]; done) | (simp only [bind_okS, bind_ret]; done) | (simp only [bind_okS, bind_ret, bind_bind]; done))) fun quotient9 => (J_cons (S_for (Γl := fun left10 : (List Int) => [eD 1 (tRow tInt) t.2.1, eD 2 tInt degree3, eO 3 tInt left10, eO 4 tInt quotient9, eD 5 tInt at_7, eD 6 tInt part8]) [1, 2, 3, 4, 5, 6] (s6.1) (I_eq (I_rangeI T.n_range (E_add (E_var 2) E_int)) (by first | with_reducible rfl | (simp only [bind_okS]; done) | (simp only [bind_okS, bind_ret]; done) | (simp only [bind_okS, bind_ret, bind_bind]; done))) (G_name 7) (fun left10 j11 => (J_cons (S_eq (S_augS 3 ip2_sub (E_add (E_var 5) (E_var 7)) (E_mul (E_var 6) (E_ixT (E_var 1) (E_var 7)))) (by first | with_reducible rfl | (simp only [bind_okS]; done) | (simp only [bind_okS, bind_ret]; done) | (simp only [bind_okS, bind_ret, bind_bind]; done))) fun left14 => (J_nil [1, 2, 3, 4, 5, 6] (left14))))) fun left16 => (J_nil [1, 2, 3, 4] (left16, quotient9))))))) fun s17 => (J_last (S_retT (E_eq (E_rec2 (A_cons (E_call (fx_cut T) (Nat.le_of_ble_eq_true rfl) (A_cons (E_frz (E_revL (E_own 4))) fun _ => A_nil) [] rfl) fun _ => (A_cons (E_call (fx_cut T) (Nat.le_of_ble_eq_true rfl) (A_cons (E_frz (E_slL (E_own 3) O_none (O_some (E_var 2)))) fun _ => A_nil) [] rfl) fun _ => A_nil))) (by first | with_reducible rfl | (simp only [bind_okS]; done) | (simp only [bind_okS, bind_ret]; done) | (simp only [bind_okS, bind_ret, bind_bind]; done)))))))))
theorem sc_poly_at : FnScope N_poly_at ["f", "x"] (defScope s_poly_at) := ⟨rfl, rfl, rfl, by decide +kernel, rfl, by decide +kernel, by decide +kernel⟩
theorem fx_poly_at (T : Facts K mg) : Fx P w K mg base "poly_at" 1 (.cons (tRow tInt) (.cons tInt .nil)) (dat tInt) (fun t => m_poly_at t.1 t.2.1) :=
  fx_ret N_poly_at ["f", "x"] T.d_poly_at sc_poly_at rfl (fun _ _ _ _ _ _ us hl => match us, hl with | [_, _], _ => rfl) fun cdv f A outer s H E t => (J_cons (S_set 2 (E_eq E_int (by first | with_reducible rfl | (simp only [bind_okS]; done) | (simp only [bind_okS, bind_ret]; done) | (simp only [bind_okS, bind_ret, bind_bind]; done)))) fun value3 => (J_cons (S_for (Γl := fun value4 : Int => [eD 1 tInt t.2.1, eD 2 tInt value4]) [1, 2] (value3) (I_eq (I_revT T.n_reversed (E_var 0)) (by first | with_reducible rfl | (simp only [bind_okS]; done) | (simp only [bind_okS, bind_ret]; done) | (simp only [bind_okS, bind_ret, bind_bind]; done))) (G_name 3) (fun value4 place5 => (J_cons (S_set 2 (E_eq (E_add (E_mul (E_var 2) (E_var 1)) (E_var 3)) (by first | with_reducible rfl | (simp only [bind_okS]; done) | (simp only [bind_okS, bind_ret]; done) | (simp only [bind_okS, bind_ret, bind_bind]; done)))) fun value6 => (J_nil [1, 2] (value6))))) fun value8 => (J_last (S_retT (E_eq (E_var 2) (by first | with_reducible rfl | (simp only [bind_okS]; done) | (simp only [bind_okS, bind_ret]; done) | (simp only [bind_okS, bind_ret, bind_bind]; done)))))))
theorem sc_root : FnScope N_root ["m"] (defScope s_root) := ⟨rfl, rfl, rfl, by decide +kernel, rfl, by decide +kernel, by decide +kernel⟩
theorem fx_root (T : Facts K mg) : Fx P w K mg base "root" 1 (.cons tInt .nil) (dat tInt) (fun t => m_root t.1) :=
  fx_ret N_root ["m"] T.d_root sc_root rfl (fun _ _ _ _ _ _ us hl => match us, hl with | [_], _ => rfl) fun cdv f A outer s H E t => (J_cons (S_set 1 (E_eq E_int (by first | with_reducible rfl | (simp only [bind_okS]; done) | (simp only [bind_okS, bind_ret]; done) | (simp only [bind_okS, bind_ret, bind_bind]; done)))) fun high2 => (J_cons (S_while (Γl := fun high3 : Int => [eD 0 tInt t.1, eD 1 tInt high3]) [0, 1] (high2) (fun high3 => (B_eq (B_cmp op_le (cp_le _) (nomark _) (E_mul (E_var 1) (E_var 1)) (E_var 0)) (by first | with_reducible rfl | (simp only [bind_okS]; done) | (simp only [bind_okS, bind_ret]; done) | (simp only [bind_okS, bind_ret, bind_bind]; done)))) (fun high3 => (J_cons (S_set 1 (E_eq (E_mulL (by decide) E_int (E_var 1)) (by first | with_reducible rfl | (simp only [bind_okS]; done) | (simp only [bind_okS, bind_ret]; done) | (simp only [bind_okS, bind_ret, bind_bind]; done)))) fun high5 => (J_nil [0, 1] (high5))))) fun high6 => (J_cons (S_set 2 (E_eq E_int (by first | with_reducible rfl | (simp only [bind_okS]; done) | (simp only [bind_okS, bind_ret]; done) | (simp only [bind_okS, bind_ret, bind_bind]; done)))) fun low7 => (J_cons (S_while (Γl := fun s8 : Int × Int => [eD 0 tInt t.1, eD 1 tInt s8.1, eD 2 tInt s8.2]) [0, 1, 2] (high6, low7) (fun s8 => (B_eq (B_cmp op_gt (cp_gt _) (nomark _) (E_sub (E_var 1) (E_var 2)) E_int) (by first | with_reducible rfl | (simp only [bind_okS]; done) | (simp only [bind_okS, bind_ret]; done) | (simp only [bind_okS, bind_ret, bind_bind]; done)))) (fun s8 => (J_cons (S_set 3 (E_eq (E_divR (by decide) (by decide) (E_add (E_var 2) (E_var 1)) E_int) (by first | with_reducible rfl | (simp only [bind_okS]; done) | (simp only [bind_okS, bind_ret]; done) | (simp only [bind_okS, bind_ret, bind_bind]; done)))) fun middle9 => (J_last (S_if (B_eq (B_cmp op_le (cp_le _) (nomark _) (E_mul (E_var 3) (E_var 3)) (E_var 0)) (by first | with_reducible rfl | (simp only [bind_okS]; done) | (simp only [bind_okS, bind_ret]; done) | (simp only [bind_okS, bind_ret, bind_bind]; done))) (J_cons (S_set 2 (E_eq (E_var 3) (by first | with_reducible rfl | (simp only [bind_okS]; done) | (simp only [bind_okS, bind_ret]; done) | (simp only [bind_okS, bind_ret, bind_bind]; done)))) fun low12 => (J_nil [0, 1, 2] (s8.1, low12))) (J_cons (S_set 1 (E_eq (E_var 3) (by first | with_reducible rfl | (simp only [bind_okS]; done) | (simp only [bind_okS, bind_ret]; done) | (simp only [bind_okS, bind_ret, bind_bind]; done)))) fun high13 => (J_nil [0, 1, 2] (high13, s8.2)))))))) fun s14 => (J_last (S_retT (E_eq (E_var 2) (by first | with_reducible rfl | (simp only [bind_okS]; done) | (simp only [bind_okS, bind_ret]; done) | (simp only [bind_okS, bind_ret, bind_bind]; done)))))))))
theorem sc_small_primes : FnScope N_small_primes [] (defScope s_small_primes) := ⟨rfl, rfl, rfl, by decide +kernel, rfl, by decide +kernel, by decide +kernel⟩
theorem fx_small_primes (T : Facts K mg) : Fx P w K mg base "small_primes" 1 .nil (own tInt) (fun t => m_small_primes ) :=
  fx_ret N_small_primes [] T.d_small_primes sc_small_primes rfl (fun _ _ _ _ _ _ us hl => match us, hl with | [], _ => rfl) fun cdv f A outer s H E t => (by show JB _ _ _ _ _ _ (m_small_primes ); unfold m_small_primes; exact (J_last (S_retT (E_eq (E_listT T.n_list (E_glob T.g_PRIMES)) (by first | with_reducible rfl | (simp only [bind_okS]; done) | (simp only [bind_okS, bind_ret]; done) | (simp only [bind_okS, bind_ret, bind_bind]; done))))))
theorem sc_turned : FnScope N_turned ["a", "p"] (defScope s_turned) := ⟨rfl, rfl, rfl, by decide +kernel, rfl, by decide +kernel, by decide +kernel⟩
theorem fx_turned (T : Facts K mg) : Fx P w K mg base "turned" 1 (.cons tInt (.cons tInt .nil)) (dat tInt) (fun t => m_turned t.1 t.2.1) :=
  fx_ret N_turned ["a", "p"] T.d_turned sc_turned rfl (fun _ _ _ _ _ _ us hl => match us, hl with | [_, _], _ => rfl) fun cdv f A outer s H E t => (J_cons (S_set 2 (E_eq (E_mod (E_var 0) (E_var 1)) (by first | with_reducible rfl | (simp only [bind_okS]; done) | (simp only [bind_okS, bind_ret]; done) | (simp only [bind_okS, bind_ret, bind_bind]; done)))) fun one3 => (J_cons (S_set 3 (E_eq (E_var 1) (by first | with_reducible rfl | (simp only [bind_okS]; done) | (simp only [bind_okS, bind_ret]; done) | (simp only [bind_okS, bind_ret, bind_bind]; done)))) fun two4 => (J_cons (S_set 4 (E_eq E_int (by first | with_reducible rfl | (simp only [bind_okS]; done) | (simp only [bind_okS, bind_ret]; done) | (simp only [bind_okS, bind_ret, bind_bind]; done)))) fun first5 => (J_cons (S_set 5 (E_eq E_int (by first | with_reducible rfl | (simp only [bind_okS]; done) | (simp only [bind_okS, bind_ret]; done) | (simp only [bind_okS, bind_ret, bind_bind]; done)))) fun second6 => (J_cons (S_while (Γl := fun s7 : Int × Int × Int × Int => [eD 1 tInt t.2.1, eD 2 tInt s7.1, eD 3 tInt s7.2.1, eD 4 tInt s7.2.2.1, eD 5 tInt s7.2.2.2]) [1, 2, 3, 4, 5] (one3, two4, first5, second6) (fun s7 => (B_eq (B_cmp op_gt (cp_gt _) (nomark _) (E_var 2) E_int) (by first | with_reducible rfl | (simp only [bind_okS]; done) | (simp only [bind_okS, bind_ret]; done) | (simp only [bind_okS, bind_ret, bind_bind]; done)))) (fun s7 => (J_cons (S_set 6 (E_eq (E_div (E_var 3) (E_var 2)) (by first | with_reducible rfl | (simp only [bind_okS]; done) | (simp only [bind_okS, bind_ret]; done) | (simp only [bind_okS, bind_ret, bind_bind]; done)))) fun part8 => (J_cons (S_eq (S_par 2 3 (by decide) (E_sub (E_var 3) (E_mul (E_var 6) (E_var 2))) (E_var 2)) (by first | with_reducible rfl | (simp only [bind_okS]; done) | (simp only [bind_okS, bind_ret]; done) | (simp only [bind_okS, bind_ret, bind_bind]; done))) fun p10 => (J_cons (S_eq (S_par 4 5 (by decide) (E_sub (E_var 5) (E_mul (E_var 6) (E_var 4))) (E_var 4)) (by first | with_reducible rfl | (simp only [bind_okS]; done) | (simp only [bind_okS, bind_ret]; done) | (simp only [bind_okS, bind_ret, bind_bind]; done))) fun p13 => (J_nil [1, 2, 3, 4, 5] (p10.1, p10.2, p13.1, p13.2))))))) fun s15 => (J_last (S_retT (E_eq (E_mod (E_var 4) (E_var 1)) (by first | with_reducible rfl | (simp only [bind_okS]; done) | (simp only [bind_okS, bind_ret]; done) | (simp only [bind_okS, bind_ret, bind_bind]; done))))))))))
theorem sc_check_poly : FnScope N_check_poly ["poly"] (defScope s_check_poly) := ⟨rfl, rfl, rfl, by decide +kernel, rfl, by decide +kernel, by decide +kernel⟩
theorem fx_check_poly (T : Facts K mg) : Fx P w K mg base "check_poly" 1 (.cons (tRow tInt) .nil) (dat tNone) (fun t => m_check_poly t.1) :=
  fx_fall N_check_poly ["poly"] T.d_check_poly sc_check_poly rfl (fun _ _ _ _ _ _ us hl => match us, hl with | [_], _ => rfl) fun cdv f A outer s H E t => (J_cons (S_set 1 (E_eq (E_and (E_chain op_le op_le (cp_le _) (cp_le _) E_int (E_lenT T.n_len (E_var 0)) E_int) (E_one (E_cmp op_eq (cp_eq _) (nomark _) (E_ixT (E_var 0) (E_neg E_int)) E_int))) (by first | with_reducible rfl | (simp only [bind_okS]; done) | (simp only [bind_okS, bind_ret]; done) | (simp only [bind_okS, bind_ret, bind_bind]; done)))) fun good2 => (J_cons (Γ1 := fun good15 : Bool => [eD 1 tBool good15]) (S_if (B_eq (B_val (E_var 1)) (by first | with_reducible rfl | (simp only [bind_okS]; done) | (simp only [bind_okS, bind_ret]; done) | (simp only [bind_okS, bind_ret, bind_bind]; done))) (J_cons (S_for (Γl := fun good9 : Bool => [eD 1 tBool good9]) [1] (good2) (I_eq (I_tup (E_var 0)) (by first | with_reducible rfl | (simp only [bind_okS]; done) | (simp only [bind_okS, bind_ret]; done) | (simp only [bind_okS, bind_ret, bind_bind]; done))) (G_name 2) (fun good9 place10 => (J_last (S_if (B_eq (B_w (W_or (B_cmp op_lt (cp_lt _) (nomark _) (E_var 2) (E_neg (E_glob T.g_LARGEST))) (W_or1 (B_cmp op_gt (cp_gt _) (nomark _) (E_var 2) (E_glob T.g_LARGEST))))) (by first | with_reducible rfl | (simp only [bind_okS]; done) | (simp only [bind_okS, bind_ret]; done) | (simp only [bind_okS, bind_ret, bind_bind]; done))) (J_cons (S_set 1 (E_eq E_bool (by first | with_reducible rfl | (simp only [bind_okS]; done) | (simp only [bind_okS, bind_ret]; done) | (simp only [bind_okS, bind_ret, bind_bind]; done)))) fun good13 => (J_nil [1] (good13))) (J_nil [1] (good9)))))) fun good14 => (J_nil [1] (good14))) (J_nil [1] (good2))) fun good15 => (J_last (S_if (B_eq (B_not (B_val (E_var 1))) (by first | with_reducible rfl | (simp only [bind_okS]; done) | (simp only [bind_okS, bind_ret]; done) | (simp only [bind_okS, bind_ret, bind_bind]; done))) (J_last (S_raise T.x_NoPolynomial [])) (J_nil [] ())))))
theorem sc_whole_root : FnScope N_whole_root ["poly"] (defScope s_whole_root) := ⟨rfl, rfl, rfl, by decide +kernel, rfl, by decide +kernel, by decide +kernel⟩
theorem fx_whole_root (T : Facts K mg) : Fx P w K mg base "whole_root" 2 (.cons (tRow tInt) .nil) (dat (tOpt tInt)) (fun t => m_whole_root t.1) :=
  fx_ret N_whole_root ["poly"] T.d_whole_root sc_whole_root rfl (fun _ _ _ _ _ _ us hl => match us, hl with | [_], _ => rfl) fun cdv f A outer s H E t => (J_cons (S_set 1 (E_eq (E_abs T.n_abs (E_ixT (E_var 0) E_int)) (by first | with_reducible rfl | (simp only [bind_okS]; done) | (simp only [bind_okS, bind_ret]; done) | (simp only [bind_okS, bind_ret, bind_bind]; done)))) fun last2 => (J_ifrT (B_eq (B_cmp op_eq (cp_eq _) (nomark _) (E_var 1) E_int) (by first | with_reducible rfl | (simp only [bind_okS]; done) | (simp only [bind_okS, bind_ret]; done) | (simp only [bind_okS, bind_ret, bind_bind]; done))) (J_last (S_retT (E_eq (E_some (by intro K H x v h; first | exact nn_row h | exact nn_rec2 h | exact nn_int h | exact nn_lst h | exact nn_rec3 h | exact nn_obj h) E_int) (by first | with_reducible rfl | (simp only [bind_okS]; done) | (simp only [bind_okS, bind_ret]; done) | (simp only [bind_okS, bind_ret, bind_bind]; done))))) (J_fl (fun a => a) (S_forF (Γl := fun s5 : Unit => [eD 0 (tRow tInt) t.1, eD 1 tInt last2]) [0, 1] () (I_eq (I_range2 T.n_range E_int (E_add (E_var 1) E_int)) (by first | with_reducible rfl | (simp only [bind_okS]; done) | (simp only [bind_okS, bind_ret]; done) | (simp only [bind_okS, bind_ret, bind_bind]; done))) (G_name 2) (fun s5 size6 => (J_last (S_if (B_eq (B_cmp op_eq (cp_eq _) (nomark _) (E_mod (E_var 1) (E_var 2)) E_int) (by first | with_reducible rfl | (simp only [bind_okS]; done) | (simp only [bind_okS, bind_ret]; done) | (simp only [bind_okS, bind_ret, bind_bind]; done))) (J_ifr (fun a => Fl.rt a) (B_eq (B_cmp op_eq (cp_eq _) (nomark _) (E_call (fx_poly_at T) (Nat.le_of_ble_eq_true rfl) (A_cons (E_var 0) fun _ => (A_cons (E_var 2) fun _ => A_nil)) [] rfl) E_int) (by first | with_reducible rfl | (simp only [bind_okS]; done) | (simp only [bind_okS, bind_ret]; done) | (simp only [bind_okS, bind_ret, bind_bind]; done))) (J_last (S_retT (E_eq (E_some (by intro K H x v h; first | exact nn_row h | exact nn_rec2 h | exact nn_int h | exact nn_lst h | exact nn_rec3 h | exact nn_obj h) (E_var 2)) (by first | with_reducible rfl | (simp only [bind_okS]; done) | (simp only [bind_okS, bind_ret]; done) | (simp only [bind_okS, bind_ret, bind_bind]; done))))) (J_last (S_if (B_eq (B_cmp op_eq (cp_eq _) (nomark _) (E_call (fx_poly_at T) (Nat.le_of_ble_eq_true rfl) (A_cons (E_var 0) fun _ => (A_cons (E_neg (E_var 2)) fun _ => A_nil)) [] rfl) E_int) (by first | with_reducible rfl | (simp only [bind_okS]; done) | (simp only [bind_okS, bind_ret]; done) | (simp only [bind_okS, bind_ret, bind_bind]; done))) (J_last (S_ret (fun a => Fl.rt a) (E_eq (E_some (by intro K H x v h; first | exact nn_row h | exact nn_rec2 h | exact nn_int h | exact nn_lst h | exact nn_rec3 h | exact nn_obj h) (E_neg (E_var 2))) (by first | with_reducible rfl | (simp only [bind_okS]; done) | (simp only [bind_okS, bind_ret]; done) | (simp only [bind_okS, bind_ret, bind_bind]; done))))) (J_nil [0, 1] (Fl.nx ()))))) (J_nil [0, 1] (Fl.nx ())))))) fun s15 => (J_last (S_retT (E_eq (E_noneO (A := tInt)) (by first | with_reducible rfl | (simp only [bind_okS]; done) | (simp only [bind_okS, bind_ret]; done) | (simp only [bind_okS, bind_ret, bind_bind]; done))))))))
theorem sc_pair_by : FnScope N_pair_by ["poly", "b"] (defScope s_pair_by) := ⟨rfl, rfl, rfl, by decide +kernel, rfl, by decide +kernel, by decide +kernel⟩
theorem fx_pair_by (T : Facts K mg) : Fx P w K mg base "pair_by" 2 (.cons (tRow tInt) (.cons tInt .nil)) (dat (tOpt (tRec2 (tRow tInt) (tRow tInt)))) (fun t => m_pair_by t.1 t.2.1) :=
  fx_ret N_pair_by ["poly", "b"] T.d_pair_by sc_pair_by rfl (fun _ _ _ _ _ _ us hl => match us, hl with | [_, _], _ => rfl) fun cdv f A outer s H E t => (J_cons (S_set 2 (E_eq (E_div (E_ixT (E_var 0) E_int) (E_var 1)) (by first | with_reducible rfl | (simp only [bind_okS]; done) | (simp only [bind_okS, bind_ret]; done) | (simp only [bind_okS, bind_ret, bind_bind]; done)))) fun d3 => (J_cons (S_set 3 (E_eq (E_sub (E_sub (E_ixT (E_var 0) E_int) (E_var 1)) (E_var 2)) (by first | with_reducible rfl | (simp only [bind_okS]; done) | (simp only [bind_okS, bind_ret]; done) | (simp only [bind_okS, bind_ret, bind_bind]; done)))) fun amid5 => (J_ifrT (B_eq (B_cmp op_ne (cp_ne _) (nomark _) (E_var 1) (E_var 2)) (by first | with_reducible rfl | (simp only [bind_okS]; done) | (simp only [bind_okS, bind_ret]; done) | (simp only [bind_okS, bind_ret, bind_bind]; done))) (J_cons (S_set 4 (E_eq (E_sub (E_ixT (E_var 0) E_int) (E_mul (E_var 1) (E_ixT (E_var 0) E_int))) (by first | with_reducible rfl | (simp only [bind_okS]; done) | (simp only [bind_okS, bind_ret]; done) | (simp only [bind_okS, bind_ret, bind_bind]; done)))) fun top9 => (J_ifrT (B_eq (B_cmp op_ne (cp_ne _) (nomark _) (E_mod (E_var 4) (E_sub (E_var 2) (E_var 1))) E_int) (by first | with_reducible rfl | (simp only [bind_okS]; done) | (simp only [bind_okS, bind_ret]; done) | (simp only [bind_okS, bind_ret, bind_bind]; done))) (J_last (S_retT (E_eq (E_noneO (A := (tRec2 (tRow tInt) (tRow tInt)))) (by first | with_reducible rfl | (simp only [bind_okS]; done) | (simp only [bind_okS, bind_ret]; done) | (simp only [bind_okS, bind_ret, bind_bind]; done))))) (J_cons (S_set 5 (E_eq (E_div (E_var 4) (E_sub (E_var 2) (E_var 1))) (by first | with_reducible rfl | (simp only [bind_okS]; done) | (simp only [bind_okS, bind_ret]; done) | (simp only [bind_okS, bind_ret, bind_bind]; done)))) fun a15 => (J_ifrT (B_eq (B_cmp op_ne (cp_ne _) (nomark _) (E_mul (E_var 5) (E_sub (E_ixT (E_var 0) E_int) (E_var 5))) (E_var 3)) (by first | with_reducible rfl | (simp only [bind_okS]; done) | (simp only [bind_okS, bind_ret]; done) | (simp only [bind_okS, bind_ret, bind_bind]; done))) (J_last (S_retT (E_eq (E_noneO (A := (tRec2 (tRow tInt) (tRow tInt)))) (by first | with_reducible rfl | (simp only [bind_okS]; done) | (simp only [bind_okS, bind_ret]; done) | (simp only [bind_okS, bind_ret, bind_bind]; done))))) (J_last (S_retT (E_eq (E_some (by intro K H x v h; first | exact nn_row h | exact nn_rec2 h | exact nn_int h | exact nn_lst h | exact nn_rec3 h | exact nn_obj h) (E_rec2 (A_cons (E_eq (E_row (I_cons (E_var 1) fun _ => (I_cons (E_var 5) fun _ => (I_cons E_int fun _ => I_nil)))) (psz_w (xs := [t.2.1, a15, 1]) rfl)) fun _ => (A_cons (E_row (I_cons (E_var 2) fun _ => (I_cons (E_sub (E_ixT (E_var 0) E_int) (E_var 5)) fun _ => (I_cons E_int fun _ => I_nil)))) fun _ => A_nil)))) (by first | with_reducible rfl | (simp only [bind_okS]; done) | (simp only [bind_okS, bind_ret]; done) | (simp only [bind_okS, bind_ret, bind_bind]; done))))))))) (J_ifrT (B_eq (B_cmp op_ne (cp_ne _) (nomark _) (E_ixT (E_var 0) E_int) (E_mul (E_var 1) (E_ixT (E_var 0) E_int))) (by first | with_reducible rfl | (simp only [bind_okS]; done) | (simp only [bind_okS, bind_ret]; done) | (simp only [bind_okS, bind_ret, bind_bind]; done))) (J_last (S_retT (E_eq (E_noneO (A := (tRec2 (tRow tInt) (tRow tInt)))) (by first | with_reducible rfl | (simp only [bind_okS]; done) | (simp only [bind_okS, bind_ret]; done) | (simp only [bind_okS, bind_ret, bind_bind]; done))))) (J_cons (S_set 6 (E_eq (E_sub (E_mul (E_ixT (E_var 0) E_int) (E_ixT (E_var 0) E_int)) (E_mulL (by decide) E_int (E_var 3))) (by first | with_reducible rfl | (simp only [bind_okS]; done) | (simp only [bind_okS, bind_ret]; done) | (simp only [bind_okS, bind_ret, bind_bind]; done)))) fun square28 => (J_ifrT (B_eq (B_w (W_or (B_cmp op_lt (cp_lt _) (nomark _) (E_var 6) E_int) (W_or1 (B_cmp op_ne (cp_ne _) (nomark _) (E_mul (E_call (fx_root T) (Nat.le_of_ble_eq_true rfl) (A_cons (E_var 6) fun _ => A_nil) [] rfl) (E_call (fx_root T) (Nat.le_of_ble_eq_true rfl) (A_cons (E_var 6) fun _ => A_nil) [] rfl)) (E_var 6))))) (by first | with_reducible rfl | (simp only [bind_okS]; done) | (simp only [bind_okS, bind_ret]; done) | (simp only [bind_okS, bind_ret, bind_bind]; done))) (J_last (S_retT (E_eq (E_noneO (A := (tRec2 (tRow tInt) (tRow tInt)))) (by first | with_reducible rfl | (simp only [bind_okS]; done) | (simp only [bind_okS, bind_ret]; done) | (simp only [bind_okS, bind_ret, bind_bind]; done))))) (J_cons (S_set 5 (E_eq (E_divR (by decide) (by decide) (E_add (E_ixT (E_var 0) E_int) (E_call (fx_root T) (Nat.le_of_ble_eq_true rfl) (A_cons (E_var 6) fun _ => A_nil) [] rfl)) E_int) (by first | with_reducible rfl | (simp only [bind_okS]; done) | (simp only [bind_okS, bind_ret]; done) | (simp only [bind_okS, bind_ret, bind_bind]; done)))) fun a37 => (J_last (S_retT (E_eq (E_some (by intro K H x v h; first | exact nn_row h | exact nn_rec2 h | exact nn_int h | exact nn_lst h | exact nn_rec3 h | exact nn_obj h) (E_rec2 (A_cons (E_eq (E_row (I_cons (E_var 1) fun _ => (I_cons (E_var 5) fun _ => (I_cons E_int fun _ => I_nil)))) (psz_w (xs := [t.2.1, a37, 1]) rfl)) fun _ => (A_cons (E_row (I_cons (E_var 2) fun _ => (I_cons (E_sub (E_ixT (E_var 0) E_int) (E_var 5)) fun _ => (I_cons E_int fun _ => I_nil)))) fun _ => A_nil)))) (by first | with_reducible rfl | (simp only [bind_okS]; done) | (simp only [bind_okS, bind_ret]; done) | (simp only [bind_okS, bind_ret, bind_bind]; done))))))))))))
theorem sc_apart : FnScope N_apart ["poly"] (defScope s_apart) := ⟨rfl, rfl, rfl, by decide +kernel, rfl, by decide +kernel, by decide +kernel⟩
theorem fx_apart (T : Facts K mg) : Fx P w K mg base "apart" 3 (.cons (tRow tInt) .nil) (dat (tOpt (tRec2 (tRow tInt) (tRow tInt)))) (fun t => m_apart t.1) :=
  fx_ret N_apart ["poly"] T.d_apart sc_apart rfl (fun _ _ _ _ _ _ us hl => match us, hl with | [_], _ => rfl) fun cdv f A outer s H E t => (J_cons (S_eq (S_expr (E_call (fx_check_poly T) (Nat.le_of_ble_eq_true rfl) (A_cons (E_var 0) fun _ => A_nil) [] rfl)) (by first | with_reducible rfl | (simp only [bind_okS]; done) | (simp only [bind_okS, bind_ret]; done) | (simp only [bind_okS, bind_ret, bind_bind]; done))) fun _ => (J_cons (S_set 1 (E_eq (E_call (fx_whole_root T) (Nat.le_of_ble_eq_true rfl) (A_cons (E_var 0) fun _ => A_nil) [] rfl) (by first | with_reducible rfl | (simp only [bind_okS]; done) | (simp only [bind_okS, bind_ret]; done) | (simp only [bind_okS, bind_ret, bind_bind]; done)))) fun at_2 => (J_ifrT (B_eq (B_notN (E_var 1) E_none) (by first | with_reducible rfl | (simp only [bind_okS]; done) | (simp only [bind_okS, bind_ret]; done) | (simp only [bind_okS, bind_ret, bind_bind]; done))) (J_last (S_retT (E_eq (E_some (by intro K H x v h; first | exact nn_row h | exact nn_rec2 h | exact nn_int h | exact nn_lst h | exact nn_rec3 h | exact nn_obj h) (E_rec2 (A_cons (E_row (I_cons (E_neg (E_unO (E_var 1))) fun _ => (I_cons E_int fun _ => I_nil))) fun _ => (A_cons (E_fst (E_call (fx_poly_parted T) (Nat.le_of_ble_eq_true rfl) (A_cons (E_var 0) fun _ => (A_cons (E_row (I_cons (E_neg (E_unO (E_var 1))) fun _ => (I_cons E_int fun _ => I_nil))) fun _ => A_nil)) [] rfl) E_int) fun _ => A_nil)))) (by first | with_reducible rfl | (simp only [bind_okS]; done) | (simp only [bind_okS, bind_ret]; done) | (simp only [bind_okS, bind_ret, bind_bind]; done))))) (J_fl (Γ1 := fun s27 : Unit => []) (fun a => a) (S_if (B_eq (B_cmp op_eq (cp_eq _) (nomark _) (E_lenT T.n_len (E_var 0)) E_int) (by first | with_reducible rfl | (simp only [bind_okS]; done) | (simp only [bind_okS, bind_ret]; done) | (simp only [bind_okS, bind_ret, bind_bind]; done))) (J_cons (S_set 2 (E_eq (E_abs T.n_abs (E_ixT (E_var 0) E_int)) (by first | with_reducible rfl | (simp only [bind_okS]; done) | (simp only [bind_okS, bind_ret]; done) | (simp only [bind_okS, bind_ret, bind_bind]; done)))) fun last14 => (J_fl (fun a => Fl.rt a) (S_forF (Γl := fun s16 : Unit => [eD 0 (tRow tInt) t.1, eD 2 tInt last14]) [0, 2] () (I_eq (I_range2 T.n_range E_int (E_add (E_var 2) E_int)) (by first | with_reducible rfl | (simp only [bind_okS]; done) | (simp only [bind_okS, bind_ret]; done) | (simp only [bind_okS, bind_ret, bind_bind]; done))) (G_name 3) (fun s16 size17 => (J_last (S_if (B_eq (B_cmp op_eq (cp_eq _) (nomark _) (E_mod (E_var 2) (E_var 3)) E_int) (by first | with_reducible rfl | (simp only [bind_okS]; done) | (simp only [bind_okS, bind_ret]; done) | (simp only [bind_okS, bind_ret, bind_bind]; done))) (J_fl (fun a => Fl.rt a) (S_forF (Γl := fun s20 : Unit => [eD 0 (tRow tInt) t.1, eD 2 tInt last14]) [0, 2] () (I_eq (I_tup (E_eq (E_row (I_cons (E_var 3) fun _ => (I_cons (E_neg (E_var 3)) fun _ => I_nil))) (psz_w (xs := [size17, (-size17)]) rfl))) (by first | with_reducible rfl | (simp only [bind_okS]; done) | (simp only [bind_okS, bind_ret]; done) | (simp only [bind_okS, bind_ret, bind_bind]; done))) (G_name 4) (fun s20 b21 => (J_cons (S_set 5 (E_eq (E_call (fx_pair_by T) (Nat.le_of_ble_eq_true rfl) (A_cons (E_var 0) fun _ => (A_cons (E_var 4) fun _ => A_nil)) [] rfl) (by first | with_reducible rfl | (simp only [bind_okS]; done) | (simp only [bind_okS, bind_ret]; done) | (simp only [bind_okS, bind_ret, bind_bind]; done)))) fun found22 => (J_last (S_if (B_eq (B_notN (E_var 5) E_none) (by first | with_reducible rfl | (simp only [bind_okS]; done) | (simp only [bind_okS, bind_ret]; done) | (simp only [bind_okS, bind_ret, bind_bind]; done))) (J_last (S_ret (fun a => Fl.rt a) (E_eq (E_var 5) (by first | with_reducible rfl | (simp only [bind_okS]; done) | (simp only [bind_okS, bind_ret]; done) | (simp only [bind_okS, bind_ret, bind_bind]; done))))) (J_nil [0, 2] (Fl.nx ()))))))) fun s25 => (J_nil [0, 2] (Fl.nx ()))) (J_nil [0, 2] (Fl.nx ())))))) fun s26 => (J_nil [] (Fl.nx ())))) (J_nil [] (Fl.nx ()))) fun s27 => (J_last (S_retT (E_eq (E_noneO (A := (tRec2 (tRow tInt) (tRow tInt)))) (by first | with_reducible rfl | (simp only [bind_okS]; done) | (simp only [bind_okS, bind_ret]; done) | (simp only [bind_okS, bind_ret, bind_bind]; done)))))))))
theorem sc_det : FnScope N_det ["table"] (defScope s_det) := ⟨rfl, rfl, rfl, by decide +kernel, rfl, by decide +kernel, by decide +kernel⟩
theorem fx_det_L (T : Facts K mg) (n : Nat) : Fx P w K mg base "det" (n + 1) (.cons (tLst (tRow tInt)) .nil) (dat tInt) (fun t => m_det_L n t.1) := by
  induction n with
  | zero => exact fx_stuck T.d_det ⟨["table"], fun _ _ _ _ _ _ us hl => match us, hl with | [_], _ => rfl⟩
  | succ n ih => exact fx_ret N_det ["table"] T.d_det sc_det rfl (fun _ _ _ _ _ _ us hl => match us, hl with | [_], _ => rfl) fun cdv f A outer s H E t => (J_ifrT (B_eq (B_cmp op_eq (cp_eq _) (nomark _) (E_lenL T.n_len (E_bor (E_var 0))) E_int) (by first | with_reducible rfl | (simp only [bind_okS]; done) | (simp only [bind_okS, bind_ret]; done) | (simp only [bind_okS, bind_ret, bind_bind]; done))) (J_last (S_retT (E_eq (E_ixT (E_ixL (E_bor (E_var 0)) E_int) E_int) (by first | with_reducible rfl | (simp only [bind_okS]; done) | (simp only [bind_okS, bind_ret]; done) | (simp only [bind_okS, bind_ret, bind_bind]; done))))) (J_cons (S_set 1 (E_eq E_int (by first | with_reducible rfl | (simp only [bind_okS]; done) | (simp only [bind_okS, bind_ret]; done) | (simp only [bind_okS, bind_ret, bind_bind]; done)))) fun total4 => (J_cons (S_for (Γl := fun total5 : Int => [eD 0 (tLst (tRow tInt)) t.1, eD 1 tInt total5]) [0, 1] (total4) (I_eq (I_rangeI T.n_range (E_lenL T.n_len (E_bor (E_var 0)))) (by first | with_reducible rfl | (simp only [bind_okS]; done) | (simp only [bind_okS, bind_ret]; done) | (simp only [bind_okS, bind_ret, bind_bind]; done))) (G_name 2) (fun total5 i6 => (J_last (S_if (B_eq (B_cmp op_ne (cp_ne _) (nomark _) (E_ixT (E_ixL (E_bor (E_var 0)) (E_var 2)) E_int) E_int) (by first | with_reducible rfl | (simp only [bind_okS]; done) | (simp only [bind_okS, bind_ret]; done) | (simp only [bind_okS, bind_ret, bind_bind]; done))) (J_cons (S_eq (S_compF 3 (C_map (own := [("row", 5)]) (hok := (by first | (show blkC N_det (defScope s_det) _ _ = true; decide +kernel) | kernel_rfl)) (I_eq (I_list (E_frz (E_cat (E_borTF (E_slL (E_bor (E_var 0)) O_none (O_some (E_var 2)))) (E_borTF (E_slL (E_bor (E_var 0)) (O_some (E_add (E_var 2) E_int)) O_none))))) (by first | with_reducible rfl | (simp only [bind_okS]; done) | (simp only [bind_okS, bind_ret]; done) | (simp only [bind_okS, bind_ret, bind_bind]; done))) (fun _ _ _ _ _ => (G_name 5)) (fun _ _ _ _ _ row11 => (E_eq (E_slT (E_var 5) (O_some E_int) O_none) (by first | with_reducible rfl | (simp only [bind_okS]; done) | (simp only [bind_okS, bind_ret]; done) | (simp only [bind_okS, bind_ret, bind_bind]; done)))))) (by first | with_reducible rfl | (simp only [bind_okS]; done) | (simp only [bind_okS, bind_ret]; done) | (simp only [bind_okS, bind_ret, bind_bind]; done))) fun lower10 => (J_cons (S_set 4 (E_eq (E_mul (E_ixT (E_ixL (E_bor (E_var 0)) (E_var 2)) E_int) (E_call ih (Nat.le_refl _) (A_cons (E_var 3) fun _ => A_nil) [] rfl)) (by first | with_reducible rfl | (simp only [bind_okS]; done) | (simp only [bind_okS, bind_ret]; done) | (simp only [bind_okS, bind_ret, bind_bind]; done)))) fun part12 => (J_cons (Γ1 := fun part18 : Int => [eD 0 (tLst (tRow tInt)) t.1, eD 1 tInt total5, eD 4 tInt part18]) (S_if (B_eq (B_cmp op_eq (cp_eq _) (nomark _) (E_modR (by decide) (E_var 2) E_int) E_int) (by first | with_reducible rfl | (simp only [bind_okS]; done) | (simp only [bind_okS, bind_ret]; done) | (simp only [bind_okS, bind_ret, bind_bind]; done))) (J_cons (S_set 4 (E_eq (E_neg (E_var 4)) (by first | with_reducible rfl | (simp only [bind_okS]; done) | (simp only [bind_okS, bind_ret]; done) | (simp only [bind_okS, bind_ret, bind_bind]; done)))) fun part17 => (J_nil [0, 1, 4] (part17))) (J_nil [0, 1, 4] (part12))) fun part18 => (J_cons (S_eq (S_aug 1 ip2_add nxok2 (E_var 4)) (by first | with_reducible rfl | (simp only [bind_okS]; done) | (simp only [bind_okS, bind_ret]; done) | (simp only [bind_okS, bind_ret, bind_bind]; done))) fun total19 => (J_nil [0, 1] (total19)))))) (J_nil [0, 1] (total5)))))) fun total20 => (J_last (S_retT (E_eq (E_var 1) (by first | with_reducible rfl | (simp only [bind_okS]; done) | (simp only [bind_okS, bind_ret]; done) | (simp only [bind_okS, bind_ret, bind_bind]; done))))))))
theorem fx_det (T : Facts K mg) : Fx P w K mg base "det" 7 (.cons (tRow (tRow tInt)) .nil) (dat tInt) (fun t => m_det t.1) :=
  fx_ret N_det ["table"] T.d_det sc_det rfl (fun _ _ _ _ _ _ us hl => match us, hl with | [_], _ => rfl) fun cdv f A outer s H E t => (J_ifrT (B_eq (B_cmp op_eq (cp_eq _) (nomark _) (E_lenT T.n_len (E_var 0)) E_int) (by first | with_reducible rfl | (simp only [bind_okS]; done) | (simp only [bind_okS, bind_ret]; done) | (simp only [bind_okS, bind_ret, bind_bind]; done))) (J_last (S_retT (E_eq (E_ixT (E_ixT (E_var 0) E_int) E_int) (by first | with_reducible rfl | (simp only [bind_okS]; done) | (simp only [bind_okS, bind_ret]; done) | (simp only [bind_okS, bind_ret, bind_bind]; done))))) (J_cons (S_set 1 (E_eq E_int (by first | with_reducible rfl | (simp only [bind_okS]; done) | (simp only [bind_okS, bind_ret]; done) | (simp only [bind_okS, bind_ret, bind_bind]; done)))) fun total4 => (J_cons (S_for (Γl := fun total5 : Int => [eD 0 (tRow (tRow tInt)) t.1, eD 1 tInt total5]) [0, 1] (total4) (I_eq (I_rangeI T.n_range (E_lenT T.n_len (E_var 0))) (by first | with_reducible rfl | (simp only [bind_okS]; done) | (simp only [bind_okS, bind_ret]; done) | (simp only [bind_okS, bind_ret, bind_bind]; done))) (G_name 2) (fun total5 i6 => (J_last (S_if (B_eq (B_cmp op_ne (cp_ne _) (nomark _) (E_ixT (E_ixT (E_var 0) (E_var 2)) E_int) E_int) (by first | with_reducible rfl | (simp only [bind_okS]; done) | (simp only [bind_okS, bind_ret]; done) | (simp only [bind_okS, bind_ret, bind_bind]; done))) (J_cons (S_eq (S_compF 3 (C_map (own := [("row", 5)]) (hok := (by first | (show blkC N_det (defScope s_det) _ _ = true; decide +kernel) | kernel_rfl)) (I_eq (I_tup (E_catT (E_slT (E_var 0) O_none (O_some (E_var 2))) (E_slT (E_var 0) (O_some (E_add (E_var 2) E_int)) O_none))) (by first | with_reducible rfl | (simp only [bind_okS]; done) | (simp only [bind_okS, bind_ret]; done) | (simp only [bind_okS, bind_ret, bind_bind]; done))) (fun _ _ _ _ _ => (G_name 5)) (fun _ _ _ _ _ row11 => (E_eq (E_slT (E_var 5) (O_some E_int) O_none) (by first | with_reducible rfl | (simp only [bind_okS]; done) | (simp only [bind_okS, bind_ret]; done) | (simp only [bind_okS, bind_ret, bind_bind]; done)))))) (by first | with_reducible rfl | (simp only [bind_okS]; done) | (simp only [bind_okS, bind_ret]; done) | (simp only [bind_okS, bind_ret, bind_bind]; done))) fun lower10 => (J_cons (S_set 4 (E_eq (E_mul (E_ixT (E_ixT (E_var 0) (E_var 2)) E_int) (E_call (fx_det_L T 5) (Nat.le_of_ble_eq_true rfl) (A_cons (E_var 3) fun _ => A_nil) [] rfl)) (by first | with_reducible rfl | (simp only [bind_okS]; done) | (simp only [bind_okS, bind_ret]; done) | (simp only [bind_okS, bind_ret, bind_bind]; done)))) fun part12 => (J_cons (Γ1 := fun part18 : Int => [eD 0 (tRow (tRow tInt)) t.1, eD 1 tInt total5, eD 4 tInt part18]) (S_if (B_eq (B_cmp op_eq (cp_eq _) (nomark _) (E_modR (by decide) (E_var 2) E_int) E_int) (by first | with_reducible rfl | (simp only [bind_okS]; done) | (simp only [bind_okS, bind_ret]; done) | (simp only [bind_okS, bind_ret, bind_bind]; done))) (J_cons (S_set 4 (E_eq (E_neg (E_var 4)) (by first | with_reducible rfl | (simp only [bind_okS]; done) | (simp only [bind_okS, bind_ret]; done) | (simp only [bind_okS, bind_ret, bind_bind]; done)))) fun part17 => (J_nil [0, 1, 4] (part17))) (J_nil [0, 1, 4] (part12))) fun part18 => (J_cons (S_eq (S_aug 1 ip2_add nxok2 (E_var 4)) (by first | with_reducible rfl | (simp only [bind_okS]; done) | (simp only [bind_okS, bind_ret]; done) | (simp only [bind_okS, bind_ret, bind_bind]; done))) fun total19 => (J_nil [0, 1] (total19)))))) (J_nil [0, 1] (total5)))))) fun total20 => (J_last (S_retT (E_eq (E_var 1) (by first | with_reducible rfl | (simp only [bind_okS]; done) | (simp only [bind_okS, bind_ret]; done) | (simp only [bind_okS, bind_ret, bind_bind]; done))))))))
theorem sc_power_sums : FnScope N_power_sums ["poly", "many"] (defScope s_power_sums) := ⟨rfl, rfl, rfl, by decide +kernel, rfl, by decide +kernel, by decide +kernel⟩
theorem fx_power_sums (T : Facts K mg) : Fx P w K mg base "power_sums" 1 (.cons (tRow tInt) (.cons tInt .nil)) (own tInt) (fun t => m_power_sums t.1 t.2.1) :=
  fx_ret N_power_sums ["poly", "many"] T.d_power_sums sc_power_sums rfl (fun _ _ _ _ _ _ us hl => match us, hl with | [_, _], _ => rfl) fun cdv f A outer s H E t => (J_cons (S_set 2 (E_eq (E_sub (E_lenT T.n_len (E_var 0)) E_int) (by first | with_reducible rfl | (simp only [bind_okS]; done) | (simp only [bind_okS, bind_ret]; done) | (simp only [bind_okS, bind_ret, bind_bind]; done)))) fun degree3 => (J_cons (S_setO 3 (E_eq (E_eq (E_lst (I_cons (E_var 2) fun _ => I_nil)) (psz_w (xs := [degree3]) rfl)) (by first | with_reducible rfl | (simp only [bind_okS]; done) | (simp only [bind_okS, bind_ret]; done) | (simp only [bind_okS, bind_ret, bind_bind]; done)))) fun sums4 => (J_cons (S_for (Γl := fun sums5 : (List Int) => [eD 0 (tRow tInt) t.1, eD 2 tInt degree3, eO 3 tInt sums5]) [0, 2, 3] (sums4) (I_eq (I_range2 T.n_range E_int (E_var 1)) (by first | with_reducible rfl | (simp only [bind_okS]; done) | (simp only [bind_okS, bind_ret]; done) | (simp only [bind_okS, bind_ret, bind_bind]; done))) (G_name 4) (fun sums5 k6 => (J_cons (S_set 5 (E_eq E_int (by first | with_reducible rfl | (simp only [bind_okS]; done) | (simp only [bind_okS, bind_ret]; done) | (simp only [bind_okS, bind_ret, bind_bind]; done)))) fun total7 => (J_cons (S_for (Γl := fun total8 : Int => [eD 0 (tRow tInt) t.1, eD 2 tInt degree3, eO 3 tInt sums5, eD 4 tInt k6, eD 5 tInt total8]) [0, 2, 3, 4, 5] (total7) (I_eq (I_range2 T.n_range E_int (E_min2 T.n_min rfl (E_var 4) (E_add (E_var 2) E_int))) (by first | with_reducible rfl | (simp only [bind_okS]; done) | (simp only [bind_okS, bind_ret]; done) | (simp only [bind_okS, bind_ret, bind_bind]; done))) (G_name 6) (fun total8 i9 => (J_cons (S_set 5 (E_eq (E_sub (E_var 5) (E_mul (E_ixT (E_var 0) (E_sub (E_var 2) (E_var 6))) (E_ixL (E_own 3) (E_sub (E_var 4) (E_var 6))))) (by first | with_reducible rfl | (simp only [bind_okS]; done) | (simp only [bind_okS, bind_ret]; done) | (simp only [bind_okS, bind_ret, bind_bind]; done)))) fun total10 => (J_nil [0, 2, 3, 4, 5] (total10))))) fun total14 => (J_cons (Γ1 := fun total19 : Int => [eD 0 (tRow tInt) t.1, eD 2 tInt degree3, eO 3 tInt sums5, eD 5 tInt total19]) (S_if (B_eq (B_cmp op_le (cp_le _) (nomark _) (E_var 4) (E_var 2)) (by first | with_reducible rfl | (simp only [bind_okS]; done) | (simp only [bind_okS, bind_ret]; done) | (simp only [bind_okS, bind_ret, bind_bind]; done))) (J_cons (S_set 5 (E_eq (E_sub (E_var 5) (E_mul (E_var 4) (E_ixT (E_var 0) (E_sub (E_var 2) (E_var 4))))) (by first | with_reducible rfl | (simp only [bind_okS]; done) | (simp only [bind_okS, bind_ret]; done) | (simp only [bind_okS, bind_ret, bind_bind]; done)))) fun total16 => (J_nil [0, 2, 3, 5] (total16))) (J_nil [0, 2, 3, 5] (total14))) fun total19 => (J_cons (S_eq (S_append 3 (E_var 5)) (by first | with_reducible rfl | (simp only [bind_okS]; done) | (simp only [bind_okS, bind_ret]; done) | (simp only [bind_okS, bind_ret, bind_bind]; done))) fun sums20 => (J_nil [0, 2, 3] (sums20)))))))) fun sums21 => (J_last (S_retO 3 (fun a => a))))))
theorem sc_measure : FnScope N_measure ["poly"] (defScope s_measure) := ⟨rfl, rfl, rfl, by decide +kernel, rfl, by decide +kernel, by decide +kernel⟩
theorem fx_measure (T : Facts K mg) : Fx P w K mg base "measure" 8 (.cons (tRow tInt) .nil) (dat tInt) (fun t => m_measure t.1) :=
  fx_ret N_measure ["poly"] T.d_measure sc_measure rfl (fun _ _ _ _ _ _ us hl => match us, hl with | [_], _ => rfl) fun cdv f A outer s H E t => (J_cons (S_eq (S_expr (E_call (fx_check_poly T) (Nat.le_of_ble_eq_true rfl) (A_cons (E_var 0) fun _ => A_nil) [] rfl)) (by first | with_reducible rfl | (simp only [bind_okS]; done) | (simp only [bind_okS, bind_ret]; done) | (simp only [bind_okS, bind_ret, bind_bind]; done))) fun _ => (J_cons (S_set 1 (E_eq (E_sub (E_lenT T.n_len (E_var 0)) E_int) (by first | with_reducible rfl | (simp only [bind_okS]; done) | (simp only [bind_okS, bind_ret]; done) | (simp only [bind_okS, bind_ret, bind_bind]; done)))) fun degree2 => (J_cons (S_set 2 (E_eq (E_frz (E_call (fx_power_sums T) (Nat.le_of_ble_eq_true rfl) (A_cons (E_var 0) fun _ => (A_cons (E_sub (E_mulL (by decide) E_int (E_var 1)) E_int) fun _ => A_nil)) [] rfl)) (by first | with_reducible rfl | (simp only [bind_okS]; done) | (simp only [bind_okS, bind_ret]; done) | (simp only [bind_okS, bind_ret, bind_bind]; done)))) fun sums3 => (J_cons (S_setO 3 (E_eq (E_eq (E_lst I_nil) (psz_w (xs := ([] : List (List Int))) rfl)) (by first | with_reducible rfl | (simp only [bind_okS]; done) | (simp only [bind_okS, bind_ret]; done) | (simp only [bind_okS, bind_ret, bind_bind]; done)))) fun rows4 => (J_cons (S_for (Γl := fun rows5 : (List (List Int)) => [eD 1 tInt degree2, eD 2 (tLst tInt) sums3, eO 3 (tRow tInt) rows5]) [1, 2, 3] (rows4) (I_eq (I_rangeI T.n_range (E_var 1)) (by first | with_reducible rfl | (simp only [bind_okS]; done) | (simp only [bind_okS, bind_ret]; done) | (simp only [bind_okS, bind_ret, bind_bind]; done))) (G_name 4) (fun rows5 i6 => (J_cons (S_eq (S_append 3 (E_tupleL T.n_tuple (E_borF (E_comp (C_map (own := [("j", 5)]) (hok := (by first | (show blkC N_measure (defScope s_measure) _ _ = true; decide +kernel) | kernel_rfl)) (I_eq (I_rangeI T.n_range (E_var 1)) (by first | with_reducible rfl | (simp only [bind_okS]; done) | (simp only [bind_okS, bind_ret]; done) | (simp only [bind_okS, bind_ret, bind_bind]; done))) (fun _ _ _ _ _ => (G_name 5)) (fun _ _ _ _ _ j7 => (E_eq (E_ixL (E_bor (E_var 2)) (E_add (E_var 4) (E_var 5))) (by first | with_reducible rfl | (simp only [bind_okS]; done) | (simp only [bind_okS, bind_ret]; done) | (simp only [bind_okS, bind_ret, bind_bind]; done))))))))) (by first | with_reducible rfl | (simp only [bind_okS]; done) | (simp only [bind_okS, bind_ret]; done) | (simp only [bind_okS, bind_ret, bind_bind]; done))) fun rows9 => (J_nil [1, 2, 3] (rows9))))) fun rows10 => (J_last (S_retT (E_eq (E_call (fx_det T) (Nat.le_of_ble_eq_true rfl) (A_cons (E_tupleL T.n_tuple (E_own 3)) fun _ => A_nil) [] rfl) (by first | with_reducible rfl | (simp only [bind_okS]; done) | (simp only [bind_okS, bind_ret]; done) | (simp only [bind_okS, bind_ret, bind_bind]; done))))))))))
theorem sc_mod_poly : FnScope N_mod_poly ["row", "p"] (defScope s_mod_poly) := ⟨rfl, rfl, rfl, by decide +kernel, rfl, by decide +kernel, by decide +kernel⟩
theorem fx_mod_poly (T : Facts K mg) : Fx P w K mg base "mod_poly" 2 (.cons (tRow tInt) (.cons tInt .nil)) (dat (tRow tInt)) (fun t => m_mod_poly t.1 t.2.1) :=
  fx_ret N_mod_poly ["row", "p"] T.d_mod_poly sc_mod_poly rfl (fun _ _ _ _ _ _ us hl => match us, hl with | [_, _], _ => rfl) fun cdv f A outer s H E t => (by show JB _ _ _ _ _ _ (m_mod_poly t.1 t.2.1); unfold m_mod_poly; exact (J_last (S_retT (E_eq (E_call (fx_cut T) (Nat.le_of_ble_eq_true rfl) (A_cons (E_frz (E_comp (C_map (own := [("place", 2)]) (hok := (by first | (show blkC N_mod_poly (defScope s_mod_poly) _ _ = true; decide +kernel) | kernel_rfl)) (I_eq (I_tup (E_var 0)) (by first | with_reducible rfl | (simp only [bind_okS]; done) | (simp only [bind_okS, bind_ret]; done) | (simp only [bind_okS, bind_ret, bind_bind]; done))) (fun _ _ _ _ _ => (G_name 2)) (fun _ _ _ _ _ place3 => (E_eq (E_mod (E_var 2) (E_var 1)) (by first | with_reducible rfl | (simp only [bind_okS]; done) | (simp only [bind_okS, bind_ret]; done) | (simp only [bind_okS, bind_ret, bind_bind]; done))))))) fun _ => A_nil) [] rfl) (by first | with_reducible rfl | (simp only [bind_okS]; done) | (simp only [bind_okS, bind_ret]; done) | (simp only [bind_okS, bind_ret, bind_bind]; done))))))
theorem sc_mod_parted : FnScope N_mod_parted ["a", "b", "p"] (defScope s_mod_parted) := ⟨rfl, rfl, rfl, by decide +kernel, rfl, by decide +kernel, by decide +kernel⟩
theorem fx_mod_parted (T : Facts K mg) : Fx P w K mg base "mod_parted" 3 (.cons (tRow tInt) (.cons (tRow tInt) (.cons tInt .nil))) (dat (tRec2 (tRow tInt) (tRow tInt))) (fun t => m_mod_parted t.1 t.2.1 t.2.2.1) :=
  fx_ret N_mod_parted ["a", "b", "p"] T.d_mod_parted sc_mod_parted rfl (fun _ _ _ _ _ _ us hl => match us, hl with | [_, _, _], _ => rfl) fun cdv f A outer s H E t => (J_cons (S_setO 3 (E_eq (E_listT T.n_list (E_call (fx_mod_poly T) (Nat.le_of_ble_eq_true rfl) (A_cons (E_var 0) fun _ => (A_cons (E_var 2) fun _ => A_nil)) [] rfl)) (by first | with_reducible rfl | (simp only [bind_okS]; done) | (simp only [bind_okS, bind_ret]; done) | (simp only [bind_okS, bind_ret, bind_bind]; done)))) fun left4 => (J_cons (S_set 4 (E_eq (E_call (fx_mod_poly T) (Nat.le_of_ble_eq_true rfl) (A_cons (E_var 1) fun _ => (A_cons (E_var 2) fun _ => A_nil)) [] rfl) (by first | with_reducible rfl | (simp only [bind_okS]; done) | (simp only [bind_okS, bind_ret]; done) | (simp only [bind_okS, bind_ret, bind_bind]; done)))) fun by_5 => (J_cons (S_set 5 (E_eq (E_sub (E_lenT T.n_len (E_var 4)) E_int) (by first | with_reducible rfl | (simp only [bind_okS]; done) | (simp only [bind_okS, bind_ret]; done) | (simp only [bind_okS, bind_ret, bind_bind]; done)))) fun degree6 => (J_cons (S_set 6 (E_eq (E_call (fx_turned T) (Nat.le_of_ble_eq_true rfl) (A_cons (E_ixT (E_var 4) (E_var 5)) fun _ => (A_cons (E_var 2) fun _ => A_nil)) [] rfl) (by first | with_reducible rfl | (simp only [bind_okS]; done) | (simp only [bind_okS, bind_ret]; done) | (simp only [bind_okS, bind_ret, bind_bind]; done)))) fun back7 => (J_cons (S_setO 7 (E_eq (E_eq (E_lst I_nil) (psz_w (xs := ([] : List Int)) rfl)) (by first | with_reducible rfl | (simp only [bind_okS]; done) | (simp only [bind_okS, bind_ret]; done) | (simp only [bind_okS, bind_ret, bind_bind]; done)))) fun quotient9 => (J_cons (S_for (Γl := fun s10 : (List Int) × (List Int) => [eD 2 tInt t.2.2.1, eO 3 tInt s10.1, eD 4 (tRow tInt) by_5, eD 5 tInt degree6, eD 6 tInt back7, eO 7 tInt s10.2]) [2, 3, 4, 5, 6, 7] (left4, quotient9) (I_eq (I_rangeD T.n_range (E_sub (E_sub (E_lenL T.n_len (E_own 3)) E_int) (E_var 5)) (E_neg E_int)) (by first | with_reducible rfl | (simp only [bind_okS]; done) | (simp only [bind_okS, bind_ret]; done) | (simp only [bind_okS, bind_ret, bind_bind]; done))) (G_name 8) (fun s10 at_11 => (J_cons (S_set 9 (E_eq (E_mod (E_mul (E_ixL (E_own 3) (E_add (E_var 8) (E_var 5))) (E_var 6)) (E_var 2)) (by first | with_reducible rfl | (simp only [bind_okS]; done) | (simp only [bind_okS, bind_ret]; done) | (simp only [bind_okS, bind_ret, bind_bind]; done)))) fun part12 => (J_cons (S_eq (S_append 7 (E_var 9)) (by first | with_reducible rfl | (simp only [bind_okS]; done) | (simp only [bind_okS, bind_ret]; done) | (simp only [bind_okS, bind_ret, bind_bind]; done))) fun quotient15 => (J_cons (S_for (Γl := fun left16 : (List Int) => [eD 2 tInt t.2.2.1, eO 3 tInt left16, eD 4 (tRow tInt) by_5, eD 5 tInt degree6, eD 6 tInt back7, eO 7 tInt quotient15, eD 8 tInt at_11, eD 9 tInt part12]) [2, 3, 4, 5, 6, 7, 8, 9] (s10.1) (I_eq (I_rangeI T.n_range (E_add (E_var 5) E_int)) (by first | with_reducible rfl | (simp only [bind_okS]; done) | (simp only [bind_okS, bind_ret]; done) | (simp only [bind_okS, bind_ret, bind_bind]; done))) (G_name 10) (fun left16 j17 => (J_cons (S_eq (S_store 3 (E_mod (E_sub (E_ixL (E_own 3) (E_add (E_var 8) (E_var 10))) (E_mul (E_var 9) (E_ixT (E_var 4) (E_var 10)))) (E_var 2)) (E_add (E_var 8) (E_var 10))) (by first | with_reducible rfl | (simp only [bind_okS]; done) | (simp only [bind_okS, bind_ret]; done) | (simp only [bind_okS, bind_ret, bind_bind]; done))) fun left22 => (J_nil [2, 3, 4, 5, 6, 7, 8, 9] (left22))))) fun left24 => (J_nil [2, 3, 4, 5, 6, 7] (left24, quotient15))))))) fun s25 => (J_last (S_retT (E_eq (E_rec2 (A_cons (E_call (fx_cut T) (Nat.le_of_ble_eq_true rfl) (A_cons (E_frz (E_revL (E_own 7))) fun _ => A_nil) [] rfl) fun _ => (A_cons (E_call (fx_cut T) (Nat.le_of_ble_eq_true rfl) (A_cons (E_frz (E_slL (E_own 3) O_none (O_some (E_var 5)))) fun _ => A_nil) [] rfl) fun _ => A_nil))) (by first | with_reducible rfl | (simp only [bind_okS]; done) | (simp only [bind_okS, bind_ret]; done) | (simp only [bind_okS, bind_ret, bind_bind]; done)))))))))))
theorem sc_mod_at : FnScope N_mod_at ["f", "x", "p"] (defScope s_mod_at) := ⟨rfl, rfl, rfl, by decide +kernel, rfl, by decide +kernel, by decide +kernel⟩
theorem fx_mod_at (T : Facts K mg) : Fx P w K mg base "mod_at" 1 (.cons (tRow tInt) (.cons tInt (.cons tInt .nil))) (dat tInt) (fun t => m_mod_at t.1 t.2.1 t.2.2.1) :=
  fx_ret N_mod_at ["f", "x", "p"] T.d_mod_at sc_mod_at rfl (fun _ _ _ _ _ _ us hl => match us, hl with | [_, _, _], _ => rfl) fun cdv f A outer s H E t => (J_cons (S_set 3 (E_eq E_int (by first | with_reducible rfl | (simp only [bind_okS]; done) | (simp only [bind_okS, bind_ret]; done) | (simp only [bind_okS, bind_ret, bind_bind]; done)))) fun value4 => (J_cons (S_for (Γl := fun value5 : Int => [eD 1 tInt t.2.1, eD 2 tInt t.2.2.1, eD 3 tInt value5]) [1, 2, 3] (value4) (I_eq (I_revT T.n_reversed (E_var 0)) (by first | with_reducible rfl | (simp only [bind_okS]; done) | (simp only [bind_okS, bind_ret]; done) | (simp only [bind_okS, bind_ret, bind_bind]; done))) (G_name 4) (fun value5 place6 => (J_cons (S_set 3 (E_eq (E_mod (E_add (E_mul (E_var 3) (E_var 1)) (E_var 4)) (E_var 2)) (by first | with_reducible rfl | (simp only [bind_okS]; done) | (simp only [bind_okS, bind_ret]; done) | (simp only [bind_okS, bind_ret, bind_bind]; done)))) fun value7 => (J_nil [1, 2, 3] (value7))))) fun value10 => (J_last (S_retT (E_eq (E_var 3) (by first | with_reducible rfl | (simp only [bind_okS]; done) | (simp only [bind_okS, bind_ret]; done) | (simp only [bind_okS, bind_ret, bind_bind]; done)))))))
theorem sc_pair_of : FnScope N_pair_of ["left", "p"] (defScope s_pair_of) := ⟨rfl, rfl, rfl, by decide +kernel, rfl, by decide +kernel, by decide +kernel⟩
theorem fx_pair_of (T : Facts K mg) : Fx P w K mg base "pair_of" 2 (.cons (tRow tInt) (.cons tInt .nil)) (dat (tOpt (tLst (tRow tInt)))) (fun t => m_pair_of t.1 t.2.1) :=
  fx_ret N_pair_of ["left", "p"] T.d_pair_of sc_pair_of rfl (fun _ _ _ _ _ _ us hl => match us, hl with | [_, _], _ => rfl) fun cdv f A outer s H E t => (J_cons (S_unpack (G_rec4K K (G_name 2) (G_name 3) (G_name 4) (G_name 5)) (E_eq (E_asRec4 (E_slT (E_var 0) O_none (O_some E_int))) (by first | with_reducible rfl | (simp only [bind_okS]; done) | (simp only [bind_okS, bind_ret]; done) | (simp only [bind_okS, bind_ret, bind_bind]; done)))) fun p3 => (J_fl (fun a => a) (S_forF (Γl := fun s4 : Unit => [eD 1 tInt t.2.1, eD 2 tInt p3.1, eD 3 tInt p3.2.1, eD 4 tInt p3.2.2.1, eD 5 tInt p3.2.2.2]) [1, 2, 3, 4, 5] () (I_eq (I_range2 T.n_range E_int (E_var 1)) (by first | with_reducible rfl | (simp only [bind_okS]; done) | (simp only [bind_okS, bind_ret]; done) | (simp only [bind_okS, bind_ret, bind_bind]; done))) (G_name 6) (fun s4 b5 => (J_cons (S_set 7 (E_eq (E_mod (E_mul (E_var 2) (E_call (fx_turned T) (Nat.le_of_ble_eq_true rfl) (A_cons (E_var 6) fun _ => (A_cons (E_var 1) fun _ => A_nil)) [] rfl)) (E_var 1)) (by first | with_reducible rfl | (simp only [bind_okS]; done) | (simp only [bind_okS, bind_ret]; done) | (simp only [bind_okS, bind_ret, bind_bind]; done)))) fun d6 => (J_last (S_if (B_eq (B_cmp op_ne (cp_ne _) (nomark _) (E_var 6) (E_var 7)) (by first | with_reducible rfl | (simp only [bind_okS]; done) | (simp only [bind_okS, bind_ret]; done) | (simp only [bind_okS, bind_ret, bind_bind]; done))) (J_cons (S_set 8 (E_eq (E_mod (E_mul (E_sub (E_var 3) (E_mul (E_var 6) (E_var 5))) (E_call (fx_turned T) (Nat.le_of_ble_eq_true rfl) (A_cons (E_sub (E_var 7) (E_var 6)) fun _ => (A_cons (E_var 1) fun _ => A_nil)) [] rfl)) (E_var 1)) (by first | with_reducible rfl | (simp only [bind_okS]; done) | (simp only [bind_okS, bind_ret]; done) | (simp only [bind_okS, bind_ret, bind_bind]; done)))) fun a10 => (J_last (S_if (B_eq (B_cmp op_eq (cp_eq _) (nomark _) (E_mod (E_sub (E_add (E_add (E_mul (E_var 8) (E_sub (E_var 5) (E_var 8))) (E_var 6)) (E_var 7)) (E_var 4)) (E_var 1)) E_int) (by first | with_reducible rfl | (simp only [bind_okS]; done) | (simp only [bind_okS, bind_ret]; done) | (simp only [bind_okS, bind_ret, bind_bind]; done))) (J_last (S_ret (fun a => Fl.rt a) (E_eq (E_some (by intro K H x v h; first | exact nn_row h | exact nn_rec2 h | exact nn_int h | exact nn_lst h | exact nn_rec3 h | exact nn_obj h) (E_frz (E_lst (I_cons (E_eq (E_row (I_cons (E_var 6) fun _ => (I_cons (E_var 8) fun _ => (I_cons E_int fun _ => I_nil)))) (psz_w (xs := [b5, a10, 1]) rfl)) fun _ => (I_cons (E_row (I_cons (E_var 7) fun _ => (I_cons (E_mod (E_sub (E_var 5) (E_var 8)) (E_var 1)) fun _ => (I_cons E_int fun _ => I_nil)))) fun _ => I_nil))))) (by first | with_reducible rfl | (simp only [bind_okS]; done) | (simp only [bind_okS, bind_ret]; done) | (simp only [bind_okS, bind_ret, bind_bind]; done))))) (J_nil [1, 2, 3, 4, 5] (Fl.nx ()))))) (J_last (S_if (B_eq (B_cmp op_eq (cp_eq _) (nomark _) (E_mod (E_sub (E_var 3) (E_mul (E_var 6) (E_var 5))) (E_var 1)) E_int) (by first | with_reducible rfl | (simp only [bind_okS]; done) | (simp only [bind_okS, bind_ret]; done) | (simp only [bind_okS, bind_ret, bind_bind]; done))) (J_fl (fun a => Fl.rt a) (S_forF (Γl := fun s29 : Unit => [eD 1 tInt t.2.1, eD 2 tInt p3.1, eD 3 tInt p3.2.1, eD 4 tInt p3.2.2.1, eD 5 tInt p3.2.2.2, eD 6 tInt b5, eD 7 tInt d6]) [1, 2, 3, 4, 5, 6, 7] () (I_eq (I_rangeI T.n_range (E_var 1)) (by first | with_reducible rfl | (simp only [bind_okS]; done) | (simp only [bind_okS, bind_ret]; done) | (simp only [bind_okS, bind_ret, bind_bind]; done))) (G_name 8) (fun s29 a30 => (J_last (S_if (B_eq (B_cmp op_eq (cp_eq _) (nomark _) (E_mod (E_sub (E_add (E_add (E_mul (E_var 8) (E_sub (E_var 5) (E_var 8))) (E_var 6)) (E_var 7)) (E_var 4)) (E_var 1)) E_int) (by first | with_reducible rfl | (simp only [bind_okS]; done) | (simp only [bind_okS, bind_ret]; done) | (simp only [bind_okS, bind_ret, bind_bind]; done))) (J_last (S_ret (fun a => Fl.rt a) (E_eq (E_some (by intro K H x v h; first | exact nn_row h | exact nn_rec2 h | exact nn_int h | exact nn_lst h | exact nn_rec3 h | exact nn_obj h) (E_frz (E_lst (I_cons (E_eq (E_row (I_cons (E_var 6) fun _ => (I_cons (E_var 8) fun _ => (I_cons E_int fun _ => I_nil)))) (psz_w (xs := [b5, a30, 1]) rfl)) fun _ => (I_cons (E_row (I_cons (E_var 7) fun _ => (I_cons (E_mod (E_sub (E_var 5) (E_var 8)) (E_var 1)) fun _ => (I_cons E_int fun _ => I_nil)))) fun _ => I_nil))))) (by first | with_reducible rfl | (simp only [bind_okS]; done) | (simp only [bind_okS, bind_ret]; done) | (simp only [bind_okS, bind_ret, bind_bind]; done))))) (J_nil [1, 2, 3, 4, 5, 6, 7] (Fl.nx ())))))) fun s41 => (J_nil [1, 2, 3, 4, 5] (Fl.nx ()))) (J_nil [1, 2, 3, 4, 5] (Fl.nx ()))))))))) fun s42 => (J_last (S_retT (E_eq (E_noneO (A := (tLst (tRow tInt)))) (by first | with_reducible rfl | (simp only [bind_okS]; done) | (simp only [bind_okS, bind_ret]; done) | (simp only [bind_okS, bind_ret, bind_bind]; done)))))))
theorem sc_rootless : FnScope N_rootless ["left", "p"] (defScope s_rootless) := ⟨rfl, rfl, rfl, by decide +kernel, rfl, by decide +kernel, by decide +kernel⟩
theorem fx_rootless (T : Facts K mg) : Fx P w K mg base "rootless" 3 (.cons (tRow tInt) (.cons tInt .nil)) (own (tRec2 (tRow tInt) tInt)) (fun t => m_rootless t.1 t.2.1) :=
  fx_ret N_rootless ["left", "p"] T.d_rootless sc_rootless rfl (fun _ _ _ _ _ _ us hl => match us, hl with | [_, _], _ => rfl) fun cdv f A outer s H E t => (J_cons (S_set 2 (E_eq (E_noneO (A := (tLst (tRow tInt)))) (by first | with_reducible rfl | (simp only [bind_okS]; done) | (simp only [bind_okS, bind_ret]; done) | (simp only [bind_okS, bind_ret, bind_bind]; done)))) fun pair3 => (J_cons (Γ1 := fun pair6 : (Option (List (List Int))) => [eD 0 (tRow tInt) t.1, eD 2 (tOpt (tLst (tRow tInt))) pair6]) (S_if (B_eq (B_cmp op_eq (cp_eq _) (nomark _) (E_lenT T.n_len (E_var 0)) E_int) (by first | with_reducible rfl | (simp only [bind_okS]; done) | (simp only [bind_okS, bind_ret]; done) | (simp only [bind_okS, bind_ret, bind_bind]; done))) (J_cons (S_set 2 (E_eq (E_call (fx_pair_of T) (Nat.le_of_ble_eq_true rfl) (A_cons (E_var 0) fun _ => (A_cons (E_var 1) fun _ => A_nil)) [] rfl) (by first | with_reducible rfl | (simp only [bind_okS]; done) | (simp only [bind_okS, bind_ret]; done) | (simp only [bind_okS, bind_ret, bind_bind]; done)))) fun pair5 => (J_nil [0, 2] (pair5))) (J_nil [0, 2] (pair3))) fun pair6 => (J_ifrT (B_eq (B_isN (E_var 2) E_none) (by first | with_reducible rfl | (simp only [bind_okS]; done) | (simp only [bind_okS, bind_ret]; done) | (simp only [bind_okS, bind_ret, bind_bind]; done))) (J_last (S_retT (E_eq (E_eq (E_lst (I_cons (E_rec2 (A_cons (E_var 0) fun _ => (A_cons E_int fun _ => A_nil))) fun _ => I_nil)) (psz_w (xs := [(t.1, 1)]) rfl)) (by first | with_reducible rfl | (simp only [bind_okS]; done) | (simp only [bind_okS, bind_ret]; done) | (simp only [bind_okS, bind_ret, bind_bind]; done))))) (J_ifrT (B_eq (B_eqP (eRow eInt) (repD_dat (eRow eInt)) (repD_dat (eRow eInt)) (by decide) (E_ixL (E_bor (E_unO (E_var 2))) E_int) (E_ixL (E_bor (E_unO (E_var 2))) E_int)) (by first | with_reducible rfl | (simp only [bind_okS]; done) | (simp only [bind_okS, bind_ret]; done) | (simp only [bind_okS, bind_ret, bind_bind]; done))) (J_last (S_retT (E_eq (E_lst (I_cons (E_rec2 (A_cons (E_ixL (E_bor (E_unO (E_var 2))) E_int) fun _ => (A_cons E_int fun _ => A_nil))) fun _ => I_nil)) (by first | with_reducible rfl | (simp only [bind_okS]; done) | (simp only [bind_okS, bind_ret]; done) | (simp only [bind_okS, bind_ret, bind_bind]; done))))) (J_last (S_retT (E_eq (E_comp (C_map (own := [("g", 3)]) (hok := (by first | (show blkC N_rootless (defScope s_rootless) _ _ = true; decide +kernel) | kernel_rfl)) (I_eq (I_list (E_frz (E_sortT T.n_sorted (E_bor (E_unO (E_var 2)))))) (by first | with_reducible rfl | (simp only [bind_okS]; done) | (simp only [bind_okS, bind_ret]; done) | (simp only [bind_okS, bind_ret, bind_bind]; done))) (fun _ _ _ _ _ => (G_name 3)) (fun _ _ _ _ _ g17 => (E_eq (E_rec2 (A_cons (E_var 3) fun _ => (A_cons E_int fun _ => A_nil))) (by first | with_reducible rfl | (simp only [bind_okS]; done) | (simp only [bind_okS, bind_ret]; done) | (simp only [bind_okS, bind_ret, bind_bind]; done)))))) (by first | with_reducible rfl | (simp only [bind_okS]; done) | (simp only [bind_okS, bind_ret]; done) | (simp only [bind_okS, bind_ret, bind_bind]; done)))))))))
theorem sc_split_by : FnScope N_split_by ["poly", "p"] (defScope s_split_by) := ⟨rfl, rfl, rfl, by decide +kernel, rfl, by decide +kernel, by decide +kernel⟩
theorem fx_split_by (T : Facts K mg) : Fx P w K mg base "split_by" 4 (.cons (tRow tInt) (.cons tInt .nil)) (own (tRec2 (tRow tInt) tInt)) (fun t => m_split_by t.1 t.2.1) :=
  fx_ret N_split_by ["poly", "p"] T.d_split_by sc_split_by rfl (fun _ _ _ _ _ _ us hl => match us, hl with | [_, _], _ => rfl) fun cdv f A outer s H E t => (J_ifrT (B_eq (B_niT eInt (by decide) (E_var 1) (E_glob T.g_PRIMES)) (by first | with_reducible rfl | (simp only [bind_okS]; done) | (simp only [bind_okS, bind_ret]; done) | (simp only [bind_okS, bind_ret, bind_bind]; done))) (J_last (S_raise T.x_NoPrime [])) (J_cons (S_set 2 (E_eq (E_call (fx_mod_poly T) (Nat.le_of_ble_eq_true rfl) (A_cons (E_var 0) fun _ => (A_cons (E_var 1) fun _ => A_nil)) [] rfl) (by first | with_reducible rfl | (simp only [bind_okS]; done) | (simp only [bind_okS, bind_ret]; done) | (simp only [bind_okS, bind_ret, bind_bind]; done)))) fun left4 => (J_cons (S_setO 3 (E_eq (E_eq (E_lst I_nil) (psz_w (xs := ([] : List ((List Int) × Int))) rfl)) (by first | with_reducible rfl | (simp only [bind_okS]; done) | (simp only [bind_okS, bind_ret]; done) | (simp only [bind_okS, bind_ret, bind_bind]; done)))) fun parts5 => (J_cons (S_for (Γl := fun s6 : (List Int) × (List ((List Int) × Int)) => [eD 1 tInt t.2.1, eD 2 (tRow tInt) s6.1, eO 3 (tRec2 (tRow tInt) tInt) s6.2]) [1, 2, 3] (left4, parts5) (I_eq (I_rangeI T.n_range (E_var 1)) (by first | with_reducible rfl | (simp only [bind_okS]; done) | (simp only [bind_okS, bind_ret]; done) | (simp only [bind_okS, bind_ret, bind_bind]; done))) (G_name 4) (fun s6 low7 => (J_cons (S_set 5 (E_eq E_int (by first | with_reducible rfl | (simp only [bind_okS]; done) | (simp only [bind_okS, bind_ret]; done) | (simp only [bind_okS, bind_ret, bind_bind]; done)))) fun often8 => (J_cons (S_while (Γl := fun s9 : (List Int) × Int => [eD 1 tInt t.2.1, eD 2 (tRow tInt) s9.1, eO 3 (tRec2 (tRow tInt) tInt) s6.2, eD 4 tInt low7, eD 5 tInt s9.2]) [1, 2, 3, 4, 5] (s6.1, often8) (fun s9 => (B_eq (B_w (W_and (B_cmp op_gt (cp_gt _) (nomark _) (E_lenT T.n_len (E_var 2)) E_int) (W_and1 (B_cmp op_eq (cp_eq _) (nomark _) (E_call (fx_mod_at T) (Nat.le_of_ble_eq_true rfl) (A_cons (E_var 2) fun _ => (A_cons (E_neg (E_var 4)) fun _ => (A_cons (E_var 1) fun _ => A_nil))) [] rfl) E_int)))) (by first | with_reducible rfl | (simp only [bind_okS]; done) | (simp only [bind_okS, bind_ret]; done) | (simp only [bind_okS, bind_ret, bind_bind]; done)))) (fun s9 => (J_cons (S_set 2 (E_eq (E_fst (E_call (fx_mod_parted T) (Nat.le_of_ble_eq_true rfl) (A_cons (E_var 2) fun _ => (A_cons (E_eq (E_row (I_cons (E_var 4) fun _ => (I_cons E_int fun _ => I_nil))) (psz_w (xs := [low7, 1]) rfl)) fun _ => (A_cons (E_var 1) fun _ => A_nil))) [] rfl) E_int) (by first | with_reducible rfl | (simp only [bind_okS]; done) | (simp only [bind_okS, bind_ret]; done) | (simp only [bind_okS, bind_ret, bind_bind]; done)))) fun left12 => (J_cons (S_eq (S_aug 5 ip2_add nxok2 E_int) (by first | with_reducible rfl | (simp only [bind_okS]; done) | (simp only [bind_okS, bind_ret]; done) | (simp only [bind_okS, bind_ret, bind_bind]; done))) fun often14 => (J_nil [1, 2, 3, 4, 5] (left12, often14)))))) fun s15 => (J_last (S_if (B_eq (B_cmp op_gt (cp_gt _) (nomark _) (E_var 5) E_int) (by first | with_reducible rfl | (simp only [bind_okS]; done) | (simp only [bind_okS, bind_ret]; done) | (simp only [bind_okS, bind_ret, bind_bind]; done))) (J_cons (S_eq (S_append 3 (E_rec2 (A_cons (E_eq (E_row (I_cons (E_var 4) fun _ => (I_cons E_int fun _ => I_nil))) (psz_w (xs := [low7, 1]) rfl)) fun _ => (A_cons (E_var 5) fun _ => A_nil)))) (by first | with_reducible rfl | (simp only [bind_okS]; done) | (simp only [bind_okS, bind_ret]; done) | (simp only [bind_okS, bind_ret, bind_bind]; done))) fun parts17 => (J_nil [1, 2, 3] (s15.1, parts17))) (J_nil [1, 2, 3] (s15.1, s6.2)))))))) fun s18 => (J_cons (Γ1 := fun parts22 : (List ((List Int) × Int)) => [eO 3 (tRec2 (tRow tInt) tInt) parts22]) (S_if (B_eq (B_cmp op_gt (cp_gt _) (nomark _) (E_lenT T.n_len (E_var 2)) E_int) (by first | with_reducible rfl | (simp only [bind_okS]; done) | (simp only [bind_okS, bind_ret]; done) | (simp only [bind_okS, bind_ret, bind_bind]; done))) (J_cons (S_setO 3 (E_eq (E_cat (E_ownT 3) (E_borTF (E_call (fx_rootless T) (Nat.le_of_ble_eq_true rfl) (A_cons (E_var 2) fun _ => (A_cons (E_var 1) fun _ => A_nil)) [] rfl))) (by first | with_reducible rfl | (simp only [bind_okS]; done) | (simp only [bind_okS, bind_ret]; done) | (simp only [bind_okS, bind_ret, bind_bind]; done)))) fun parts20 => (J_nil [3] (parts20))) (J_nil [3] (s18.2))) fun parts22 => (J_last (S_retO 3 (fun a => a))))))))
theorem sc_square_primes : FnScope N_square_primes ["size"] (defScope s_square_primes) := ⟨rfl, rfl, rfl, by decide +kernel, rfl, by decide +kernel, by decide +kernel⟩
theorem fx_square_primes (T : Facts K mg) : Fx P w K mg base "square_primes" 2 (.cons tInt .nil) (own tInt) (fun t => m_square_primes t.1) :=
  fx_ret N_square_primes ["size"] T.d_square_primes sc_square_primes rfl (fun _ _ _ _ _ _ us hl => match us, hl with | [_], _ => rfl) fun cdv f A outer s H E t => (by show JB _ _ _ _ _ _ (m_square_primes t.1); unfold m_square_primes; exact (J_last (S_retT (E_eq (E_comp (C_comp (own := [("p", 1)]) (hok := (by first | (show blkC N_square_primes (defScope s_square_primes) _ _ = true; decide +kernel) | kernel_rfl)) (I_eq (I_list (E_frz (E_call0 (fx_small_primes T) (Nat.le_of_ble_eq_true rfl) [] rfl))) (by first | with_reducible rfl | (simp only [bind_okS]; done) | (simp only [bind_okS, bind_ret]; done) | (simp only [bind_okS, bind_ret, bind_bind]; done))) (fun _ _ _ _ _ => (G_name 1)) (fun _ _ _ _ _ p2 => (Bs_one (B_eq (B_cmp op_eq (cp_eq _) (nomark _) (E_mod (E_var 0) (E_mul (E_var 1) (E_var 1))) E_int) (by first | with_reducible rfl | (simp only [bind_okS]; done) | (simp only [bind_okS, bind_ret]; done) | (simp only [bind_okS, bind_ret, bind_bind]; done))))) (fun _ _ _ _ _ p2 => (E_eq (E_var 1) (by first | with_reducible rfl | (simp only [bind_okS]; done) | (simp only [bind_okS, bind_ret]; done) | (simp only [bind_okS, bind_ret, bind_bind]; done)))))) (by first | with_reducible rfl | (simp only [bind_okS]; done) | (simp only [bind_okS, bind_ret]; done) | (simp only [bind_okS, bind_ret, bind_bind]; done))))))
theorem sc_parts_of : FnScope N_parts_of ["poly", "p"] (defScope s_parts_of) := ⟨rfl, rfl, rfl, by decide +kernel, rfl, by decide +kernel, by decide +kernel⟩
theorem fx_parts_of (T : Facts K mg) : Fx P w K mg base "parts_of" 5 (.cons (tRow tInt) (.cons tInt .nil)) (own (tRec3 (tRow tInt) tInt (tRow tInt))) (fun t => m_parts_of t.1 t.2.1) :=
  fx_ret N_parts_of ["poly", "p"] T.d_parts_of sc_parts_of rfl (fun _ _ _ _ _ _ us hl => match us, hl with | [_, _], _ => rfl) fun cdv f A outer s H E t => (J_cons (S_setO 2 (E_eq (E_eq (E_lst I_nil) (psz_w (xs := ([] : List ((List Int) × Int × (List Int)))) rfl)) (by first | with_reducible rfl | (simp only [bind_okS]; done) | (simp only [bind_okS, bind_ret]; done) | (simp only [bind_okS, bind_ret, bind_bind]; done)))) fun parts3 => (J_cons (S_for (Γl := fun parts4 : (List ((List Int) × Int × (List Int))) => [eD 0 (tRow tInt) t.1, eO 2 (tRec3 (tRow tInt) tInt (tRow tInt)) parts4]) [0, 2] (parts3) (I_eq (I_list (E_frz (E_call (fx_split_by T) (Nat.le_of_ble_eq_true rfl) (A_cons (E_var 0) fun _ => (A_cons (E_var 1) fun _ => A_nil)) [] rfl))) (by first | with_reducible rfl | (simp only [bind_okS]; done) | (simp only [bind_okS, bind_ret]; done) | (simp only [bind_okS, bind_ret, bind_bind]; done))) (G_rec2K K (G_name 3) (G_name 4)) (fun parts4 x5 => (J_cons (S_eq (S_append 2 (E_rec3 (A_cons (E_var 3) fun _ => (A_cons (E_var 4) fun _ => (A_cons (E_snd (E_call (fx_poly_parted T) (Nat.le_of_ble_eq_true rfl) (A_cons (E_var 0) fun _ => (A_cons (E_var 3) fun _ => A_nil)) [] rfl) E_int) fun _ => A_nil))))) (by first | with_reducible rfl | (simp only [bind_okS]; done) | (simp only [bind_okS, bind_ret]; done) | (simp only [bind_okS, bind_ret, bind_bind]; done))) fun parts9 => (J_nil [0, 2] (parts9))))) fun parts10 => (J_last (S_retO 2 (fun a => a)))))
theorem sc_divides_all : FnScope N_divides_all ["m", "row"] (defScope s_divides_all) := ⟨rfl, rfl, rfl, by decide +kernel, rfl, by decide +kernel, by decide +kernel⟩
theorem fx_divides_all (T : Facts K mg) : Fx P w K mg base "divides_all" 1 (.cons tInt (.cons (tRow tInt) .nil)) (dat tBool) (fun t => m_divides_all t.1 t.2.1) :=
  fx_ret N_divides_all ["m", "row"] T.d_divides_all sc_divides_all rfl (fun _ _ _ _ _ _ us hl => match us, hl with | [_, _], _ => rfl) fun cdv f A outer s H E t => (by show JB _ _ _ _ _ _ (m_divides_all t.1 t.2.1); unfold m_divides_all; exact (J_last (S_retT (E_eq (E_all T.n_all (E_borF (E_comp (C_map (own := [("place", 2)]) (hok := (by first | (show blkC N_divides_all (defScope s_divides_all) _ _ = true; decide +kernel) | kernel_rfl)) (I_eq (I_tup (E_var 1)) (by first | with_reducible rfl | (simp only [bind_okS]; done) | (simp only [bind_okS, bind_ret]; done) | (simp only [bind_okS, bind_ret, bind_bind]; done))) (fun _ _ _ _ _ => (G_name 2)) (fun _ _ _ _ _ place3 => (E_eq (E_cmp op_eq (cp_eq _) (nomark _) (E_mod (E_var 2) (E_var 0)) E_int) (by first | with_reducible rfl | (simp only [bind_okS]; done) | (simp only [bind_okS, bind_ret]; done) | (simp only [bind_okS, bind_ret, bind_bind]; done)))))))) (by first | with_reducible rfl | (simp only [bind_okS]; done) | (simp only [bind_okS, bind_ret]; done) | (simp only [bind_okS, bind_ret, bind_bind]; done))))))
theorem sc_outside : FnScope N_outside ["poly", "size"] (defScope s_outside) := ⟨rfl, rfl, rfl, by decide +kernel, rfl, by decide +kernel, by decide +kernel⟩
theorem fx_outside (T : Facts K mg) : Fx P w K mg base "outside" 6 (.cons (tRow tInt) (.cons tInt .nil)) (dat (tOpt (tRec2 tInt (tRow tInt)))) (fun t => m_outside t.1 t.2.1) :=
  fx_ret N_outside ["poly", "size"] T.d_outside sc_outside rfl (fun _ _ _ _ _ _ us hl => match us, hl with | [_, _], _ => rfl) fun cdv f A outer s H E t => (J_fl (fun a => a) (S_forF (Γl := fun s3 : Unit => [eD 0 (tRow tInt) t.1]) [0] () (I_eq (I_list (E_frz (E_call (fx_square_primes T) (Nat.le_of_ble_eq_true rfl) (A_cons (E_var 1) fun _ => A_nil) [] rfl))) (by first | with_reducible rfl | (simp only [bind_okS]; done) | (simp only [bind_okS, bind_ret]; done) | (simp only [bind_okS, bind_ret, bind_bind]; done))) (G_name 2) (fun s3 p4 => (J_fl (fun a => Fl.rt a) (S_forF (Γl := fun s5 : Unit => [eD 0 (tRow tInt) t.1, eD 2 tInt p4]) [0, 2] () (I_eq (I_list (E_frz (E_call (fx_parts_of T) (Nat.le_of_ble_eq_true rfl) (A_cons (E_var 0) fun _ => (A_cons (E_var 2) fun _ => A_nil)) [] rfl))) (by first | with_reducible rfl | (simp only [bind_okS]; done) | (simp only [bind_okS, bind_ret]; done) | (simp only [bind_okS, bind_ret, bind_bind]; done))) (G_rec3K K (G_name 3) (G_name 4) (G_name 5)) (fun s5 x6 => (J_last (S_if (B_eq (B_w (W_and (B_cmp op_ge (cp_ge _) (nomark _) (E_var 4) E_int) (W_and1 (B_val (E_call (fx_divides_all T) (Nat.le_of_ble_eq_true rfl) (A_cons (E_mul (E_var 2) (E_var 2)) fun _ => (A_cons (E_var 5) fun _ => A_nil)) [] rfl))))) (by first | with_reducible rfl | (simp only [bind_okS]; done) | (simp only [bind_okS, bind_ret]; done) | (simp only [bind_okS, bind_ret, bind_bind]; done))) (J_cons (S_eq (S_comp 6 (C_map (own := [("place", 7)]) (hok := (by first | (show blkC N_outside (defScope s_outside) _ _ = true; decide +kernel) | kernel_rfl)) (I_eq (I_tup (E_fst (E_call (fx_poly_parted T) (Nat.le_of_ble_eq_true rfl) (A_cons (E_var 0) fun _ => (A_cons (E_var 3) fun _ => A_nil)) [] rfl) E_int)) (by first | with_reducible rfl | (simp only [bind_okS]; done) | (simp only [bind_okS, bind_ret]; done) | (simp only [bind_okS, bind_ret, bind_bind]; done))) (fun _ _ _ _ _ => (G_name 7)) (fun _ _ _ _ _ place12 => (E_eq (E_mod (E_var 7) (E_var 2)) (by first | with_reducible rfl | (simp only [bind_okS]; done) | (simp only [bind_okS, bind_ret]; done) | (simp only [bind_okS, bind_ret, bind_bind]; done)))))) (by first | with_reducible rfl | (simp only [bind_okS]; done) | (simp only [bind_okS, bind_ret]; done) | (simp only [bind_okS, bind_ret, bind_bind]; done))) fun row10 => (J_cons (S_while (Γl := fun row13 : (List Int) => [eD 0 (tRow tInt) t.1, eD 2 tInt p4, eO 6 tInt row13]) [0, 2, 6] (row10) (fun row13 => (B_eq (B_cmp op_lt (cp_lt _) (nomark _) (E_lenL T.n_len (E_own 6)) (E_sub (E_lenT T.n_len (E_var 0)) E_int)) (by first | with_reducible rfl | (simp only [bind_okS]; done) | (simp only [bind_okS, bind_ret]; done) | (simp only [bind_okS, bind_ret, bind_bind]; done)))) (fun row13 => (J_cons (S_eq (S_append 6 E_int) (by first | with_reducible rfl | (simp only [bind_okS]; done) | (simp only [bind_okS, bind_ret]; done) | (simp only [bind_okS, bind_ret, bind_bind]; done))) fun row14 => (J_nil [0, 2, 6] (row14))))) fun row15 => (J_last (S_ret (fun a => Fl.rt a) (E_eq (E_some (by intro K H x v h; first | exact nn_row h | exact nn_rec2 h | exact nn_int h | exact nn_lst h | exact nn_rec3 h | exact nn_obj h) (E_rec2 (A_cons (E_var 2) fun _ => (A_cons (E_tupleL T.n_tuple (E_own 6)) fun _ => A_nil)))) (by first | with_reducible rfl | (simp only [bind_okS]; done) | (simp only [bind_okS, bind_ret]; done) | (simp only [bind_okS, bind_ret, bind_bind]; done))))))) (J_nil [0, 2] (Fl.nx ())))))) fun s17 => (J_nil [0] (Fl.nx ()))))) fun s18 => (J_last (S_retT (E_eq (E_noneO (A := (tRec2 tInt (tRow tInt)))) (by first | with_reducible rfl | (simp only [bind_okS]; done) | (simp only [bind_okS, bind_ret]; done) | (simp only [bind_okS, bind_ret, bind_bind]; done))))))
theorem sc_Ring : FnScope N_Ring ["self", "poly"] (defScope s_Ring) := ⟨rfl, rfl, rfl, by decide +kernel, rfl, by decide +kernel, by decide +kernel⟩
theorem fx_Ring (T : Facts K mg) : FxI P w K mg base "Ring" 9 (.cons (tRow tInt) .nil) toRing (fun t => m_Ring t.1) :=
  fxi_of N_Ring ["poly"] T.c_Ring sc_Ring rfl (fun _ => rfl) (fun _ _ _ _ _ _ us hl => match us, hl with | [_, _], _ => rfl) fun C a cdv f A outer s H E t cC hn => (J_cons (S_set 2 (E_eq (E_call (fx_apart T) (Nat.le_of_ble_eq_true rfl) (A_cons (E_var 1) fun _ => A_nil) [] rfl) (by first | with_reducible rfl | (simp only [bind_okS]; done) | (simp only [bind_okS, bind_ret]; done) | (simp only [bind_okS, bind_ret, bind_bind]; done)))) fun found3 => (J_cons (Γ1 := fun s9 : Unit => [eI 0 C a ([] : List (Str × XF)), eD 1 (tRow tInt) t.1]) (S_if (B_eq (B_notN (E_var 2) E_none) (by first | with_reducible rfl | (simp only [bind_okS]; done) | (simp only [bind_okS, bind_ret]; done) | (simp only [bind_okS, bind_ret, bind_bind]; done))) (J_last (S_eq (S_raise2 (xi_FallsApart T) xRow xRow (Nat.le_of_ble_eq_true rfl) (A_cons (E_fst (E_unO (E_var 2)) E_int) fun _ => (A_cons (E_snd (E_unO (E_var 2)) E_int) fun _ => A_nil)) []) (by first | with_reducible rfl | (simp only [bind_okS]; done) | (simp only [bind_okS, bind_ret]; done) | (simp only [bind_okS, bind_ret, bind_bind]; done)))) (J_nil [0, 1] ())) fun s9 => (J_cons (S_set 3 (E_eq (E_call (fx_measure T) (Nat.le_of_ble_eq_true rfl) (A_cons (E_var 1) fun _ => A_nil) [] rfl) (by first | with_reducible rfl | (simp only [bind_okS]; done) | (simp only [bind_okS, bind_ret]; done) | (simp only [bind_okS, bind_ret, bind_bind]; done)))) fun size10 => (J_cons (Γ1 := fun s12 : Unit => [eI 0 C a ([] : List (Str × XF)), eD 1 (tRow tInt) t.1, eD 3 tInt size10]) (S_if (B_eq (B_cmp op_gt (cp_gt _) (nomark _) (E_abs T.n_abs (E_var 3)) (E_glob T.g_GREATEST)) (by first | with_reducible rfl | (simp only [bind_okS]; done) | (simp only [bind_okS, bind_ret]; done) | (simp only [bind_okS, bind_ret, bind_bind]; done))) (J_last (S_raise T.x_TooGreat [])) (J_nil [0, 1, 3] ())) fun s12 => (J_cons (S_set 4 (E_eq (E_call (fx_outside T) (Nat.le_of_ble_eq_true rfl) (A_cons (E_var 1) fun _ => (A_cons (E_var 3) fun _ => A_nil)) [] rfl) (by first | with_reducible rfl | (simp only [bind_okS]; done) | (simp only [bind_okS, bind_ret]; done) | (simp only [bind_okS, bind_ret, bind_bind]; done)))) fun lack13 => (J_cons (Γ1 := fun s19 : Unit => [eI 0 C a ([] : List (Str × XF)), eD 1 (tRow tInt) t.1, eD 3 tInt size10]) (S_if (B_eq (B_notN (E_var 4) E_none) (by first | with_reducible rfl | (simp only [bind_okS]; done) | (simp only [bind_okS, bind_ret]; done) | (simp only [bind_okS, bind_ret, bind_bind]; done))) (J_last (S_eq (S_raise2 (xi_NotWhole T) xInt xRow (Nat.le_of_ble_eq_true rfl) (A_cons (E_fst (E_unO (E_var 4)) E_int) fun _ => (A_cons (E_snd (E_unO (E_var 4)) E_int) fun _ => A_nil)) []) (by first | with_reducible rfl | (simp only [bind_okS]; done) | (simp only [bind_okS, bind_ret]; done) | (simp only [bind_okS, bind_ret, bind_bind]; done)))) (J_nil [0, 1, 3] ())) fun s19 => (J_cons (S_fld 0 yRow.toXfd cC (hn _ (by simp)) (E_eq (E_var 1) (by first | with_reducible rfl | (simp only [bind_okS]; done) | (simp only [bind_okS, bind_ret]; done) | (simp only [bind_okS, bind_ret, bind_bind]; done)))) fun poly20 => (J_cons (S_fld 0 yInt.toXfd cC (hn _ (by simp)) (E_eq (E_sub (E_lenT T.n_len (E_var 1)) E_int) (by first | with_reducible rfl | (simp only [bind_okS]; done) | (simp only [bind_okS, bind_ret]; done) | (simp only [bind_okS, bind_ret, bind_bind]; done)))) fun degree21 => (J_cons (S_fld 0 yInt.toXfd cC (hn _ (by simp)) (E_eq (E_var 3) (by first | with_reducible rfl | (simp only [bind_okS]; done) | (simp only [bind_okS, bind_ret]; done) | (simp only [bind_okS, bind_ret, bind_bind]; done)))) fun measure22 => (J_nil [0] (poly20, degree21, measure22)))))))))))
theorem sc__law_cell : FnScope N__law_cell ["_law_script", "_law_k"] (defScope s__law_cell) := ⟨rfl, rfl, rfl, by decide +kernel, rfl, by decide +kernel, by decide +kernel⟩
theorem fx__law_cell (T : Facts K mg) : Fx P w K mg base "_law_cell" 1 (.cons tScr (.cons tInt .nil)) (dat tInt) (fun t => m__law_cell t.1 t.2.1) :=
  fx_ret N__law_cell ["_law_script", "_law_k"] T.d__law_cell sc__law_cell rfl (fun _ _ _ _ _ _ us hl => match us, hl with | [_, _], _ => rfl) fun cdv f A outer s H E t => (J_ifrT (B_eq (B_cmp op_eq (cp_eq _) (nomark _) (E_lenL T.n_len (E_borS (E_var 0))) E_int) (by first | with_reducible rfl | (simp only [bind_okS]; done) | (simp only [bind_okS, bind_ret]; done) | (simp only [bind_okS, bind_ret, bind_bind]; done))) (J_last (S_retT (E_eq (E_mulL (by decide) E_int (E_add (E_var 1) E_int)) (by first | with_reducible rfl | (simp only [bind_okS]; done) | (simp only [bind_okS, bind_ret]; done) | (simp only [bind_okS, bind_ret, bind_bind]; done))))) (J_ifrT (B_eq (B_cmp op_lt (cp_lt _) (nomark _) (E_var 1) (E_lenL T.n_len (E_borS (E_var 0)))) (by first | with_reducible rfl | (simp only [bind_okS]; done) | (simp only [bind_okS, bind_ret]; done) | (simp only [bind_okS, bind_ret, bind_bind]; done))) (J_last (S_retT (E_eq (E_ixL (E_borS (E_var 0)) (E_var 1)) (by first | with_reducible rfl | (simp only [bind_okS]; done) | (simp only [bind_okS, bind_ret]; done) | (simp only [bind_okS, bind_ret, bind_bind]; done))))) (J_last (S_retT (E_eq (E_add (E_ixL (E_borS (E_var 0)) (E_mod (E_var 1) (E_lenL T.n_len (E_borS (E_var 0))))) (E_mulL (by decide) E_int (E_var 1))) (by first | with_reducible rfl | (simp only [bind_okS]; done) | (simp only [bind_okS, bind_ret]; done) | (simp only [bind_okS, bind_ret, bind_bind]; done)))))))
theorem sc__law_mixed : FnScope N__law_mixed ["_law_cell_here", "_law_k", "_law_prime"] (defScope s__law_mixed) := ⟨rfl, rfl, rfl, by decide +kernel, rfl, by decide +kernel, by decide +kernel⟩
theorem fx__law_mixed (T : Facts K mg) : Fx P w K mg base "_law_mixed" 1 (.cons tInt (.cons tInt (.cons tInt .nil))) (dat tInt) (fun t => m__law_mixed t.1 t.2.1 t.2.2.1) :=
  fx_ret N__law_mixed ["_law_cell_here", "_law_k", "_law_prime"] T.d__law_mixed sc__law_mixed rfl (fun _ _ _ _ _ _ us hl => match us, hl with | [_, _, _], _ => rfl) fun cdv f A outer s H E t => (J_cons (S_set 3 (E_eq (E_modR (by decide) (E_mulR (by decide) (E_add (E_add (E_add (E_var 0) (E_mul (E_mulL (by decide) E_int (E_var 1)) (E_var 1))) (E_mulL (by decide) E_int (E_var 1))) E_int) E_int) E_int) (by first | with_reducible rfl | (simp only [bind_okS]; done) | (simp only [bind_okS, bind_ret]; done) | (simp only [bind_okS, bind_ret, bind_bind]; done)))) fun far4 => (J_cons (S_set 3 (E_eq (E_modR (by decide) (E_mul (E_var 3) (E_var 3)) E_int) (by first | with_reducible rfl | (simp only [bind_okS]; done) | (simp only [bind_okS, bind_ret]; done) | (simp only [bind_okS, bind_ret, bind_bind]; done)))) fun far10 => (J_last (S_retT (E_eq (E_mod (E_mulR (by decide) (E_var 3) E_int) (E_var 2)) (by first | with_reducible rfl | (simp only [bind_okS]; done) | (simp only [bind_okS, bind_ret]; done) | (simp only [bind_okS, bind_ret, bind_bind]; done)))))))
theorem sc__law_draws : FnScope N__law_draws ["_law_cell_here", "_law_widths", "_law_prime"] (defScope s__law_draws) := ⟨rfl, rfl, rfl, by decide +kernel, rfl, by decide +kernel, by decide +kernel⟩
theorem fx__law_draws (T : Facts K mg) : Fx P w K mg base "_law_draws" 2 (.cons tInt (.cons (tLst tInt) (.cons tInt .nil))) (own tInt) (fun t => m__law_draws t.1 t.2.1 t.2.2.1) :=
  fx_ret N__law_draws ["_law_cell_here", "_law_widths", "_law_prime"] T.d__law_draws sc__law_draws rfl (fun _ _ _ _ _ _ us hl => match us, hl with | [_, _, _], _ => rfl) fun cdv f A outer s H E t => (J_cons (S_set 3 (E_eq E_int (by first | with_reducible rfl | (simp only [bind_okS]; done) | (simp only [bind_okS, bind_ret]; done) | (simp only [bind_okS, bind_ret, bind_bind]; done)))) fun left4 => (J_cons (Γ1 := fun left7 : Int => [eD 0 tInt t.1, eD 1 (tLst tInt) t.2.1, eD 2 tInt t.2.2.1, eD 3 tInt left7]) (S_if (B_eq (B_cmp op_ge (cp_ge _) (nomark _) (E_var 0) (E_powK (c := 1000000000000000000) 18 (by decide) (by decide) (by decide +kernel) E_int E_int)) (by first | with_reducible rfl | (simp only [bind_okS]; done) | (simp only [bind_okS, bind_ret]; done) | (simp only [bind_okS, bind_ret, bind_bind]; done))) (J_cons (S_set 3 (E_eq (E_sub (E_var 0) (E_powK (c := 1000000000000000000) 18 (by decide) (by decide) (by decide +kernel) E_int E_int)) (by first | with_reducible rfl | (simp only [bind_okS]; done) | (simp only [bind_okS, bind_ret]; done) | (simp only [bind_okS, bind_ret, bind_bind]; done)))) fun left6 => (J_nil [0, 1, 2, 3] (left6))) (J_nil [0, 1, 2, 3] (left4))) fun left7 => (J_cons (S_setO 4 (E_eq (E_eq (E_lst I_nil) (psz_w (xs := ([] : List Int)) rfl)) (by first | with_reducible rfl | (simp only [bind_okS]; done) | (simp only [bind_okS, bind_ret]; done) | (simp only [bind_okS, bind_ret, bind_bind]; done)))) fun found8 => (J_cons (S_for (Γl := fun s9 : Int × (List Int) => [eD 0 tInt t.1, eD 1 (tLst tInt) t.2.1, eD 2 tInt t.2.2.1, eD 3 tInt s9.1, eO 4 tInt s9.2]) [0, 1, 2, 3, 4] (left7, found8) (I_eq (I_rangeI T.n_range (E_lenL T.n_len (E_bor (E_var 1)))) (by first | with_reducible rfl | (simp only [bind_okS]; done) | (simp only [bind_okS, bind_ret]; done) | (simp only [bind_okS, bind_ret, bind_bind]; done))) (G_name 5) (fun s9 k10 => (J_last (S_if (B_eq (B_cmp op_gt (cp_gt _) (nomark _) (E_var 3) E_int) (by first | with_reducible rfl | (simp only [bind_okS]; done) | (simp only [bind_okS, bind_ret]; done) | (simp only [bind_okS, bind_ret, bind_bind]; done))) (J_cons (S_eq (S_append 4 (E_mod (E_var 3) (E_ixL (E_bor (E_var 1)) (E_var 5)))) (by first | with_reducible rfl | (simp only [bind_okS]; done) | (simp only [bind_okS, bind_ret]; done) | (simp only [bind_okS, bind_ret, bind_bind]; done))) fun found14 => (J_cons (S_set 3 (E_eq (E_div (E_var 3) (E_ixL (E_bor (E_var 1)) (E_var 5))) (by first | with_reducible rfl | (simp only [bind_okS]; done) | (simp only [bind_okS, bind_ret]; done) | (simp only [bind_okS, bind_ret, bind_bind]; done)))) fun left15 => (J_nil [0, 1, 2, 3, 4] (left15, found14)))) (J_cons (S_eq (S_append 4 (E_mod (E_call (fx__law_mixed T) (Nat.le_of_ble_eq_true rfl) (A_cons (E_var 0) fun _ => (A_cons (E_var 5) fun _ => (A_cons (E_var 2) fun _ => A_nil))) [] rfl) (E_ixL (E_bor (E_var 1)) (E_var 5)))) (by first | with_reducible rfl | (simp only [bind_okS]; done) | (simp only [bind_okS, bind_ret]; done) | (simp only [bind_okS, bind_ret, bind_bind]; done))) fun found20 => (J_nil [0, 1, 2, 3, 4] (s9.1, found20))))))) fun s21 => (J_last (S_retO 4 (fun a => a)))))))
theorem sc__law_whole : FnScope N__law_whole ["_law_found"] (defScope s__law_whole) := ⟨rfl, rfl, rfl, by decide +kernel, rfl, by decide +kernel, by decide +kernel⟩
theorem fx__law_whole (T : Facts K mg) : Fx P w K mg base "_law_whole" 1 (.cons tInt .nil) (dat tBool) (fun t => m__law_whole t.1) :=
  fx_ret N__law_whole ["_law_found"] T.d__law_whole sc__law_whole rfl (fun _ _ _ _ _ _ us hl => match us, hl with | [_], _ => rfl) fun cdv f A outer s H E t => (by show JB _ _ _ _ _ _ (m__law_whole t.1); unfold m__law_whole; exact (J_last (S_retT (E_eq (E_and (E_isi (C := "int") (r := true) ty_int (by decide +kernel) T.n_isinstance T.n_int (by decide +kernel) (E_var 0)) (E_one (E_not (E_isi (C := "bool") (r := false) ty_int (by decide +kernel) T.n_isinstance T.n_bool (by decide +kernel) (E_var 0))))) (by first | with_reducible rfl | (simp only [bind_okS]; done) | (simp only [bind_okS, bind_ret]; done) | (simp only [bind_okS, bind_ret, bind_bind]; done))))))
theorem sc__law_times_out : FnScope N__law_times_out ["_law_one", "_law_two"] (defScope s__law_times_out) := ⟨rfl, rfl, rfl, by decide +kernel, rfl, by decide +kernel, by decide +kernel⟩
theorem fx__law_times_out (T : Facts K mg) : Fx P w K mg base "_law_times_out" 1 (.cons (tRow tInt) (.cons (tRow tInt) .nil)) (dat (tRow tInt)) (fun t => m__law_times_out t.1 t.2.1) :=
  fx_ret N__law_times_out ["_law_one", "_law_two"] T.d__law_times_out sc__law_times_out rfl (fun _ _ _ _ _ _ us hl => match us, hl with | [_, _], _ => rfl) fun cdv f A outer s H E t => (J_cons (S_setO 2 (E_eq (E_rep (E_borTF (E_eq (E_lst (I_cons E_int fun _ => I_nil)) (psz_w (xs := [0]) rfl))) (E_sub (E_add (E_lenT T.n_len (E_var 0)) (E_lenT T.n_len (E_var 1))) E_int)) (by first | with_reducible rfl | (simp only [bind_okS]; done) | (simp only [bind_okS, bind_ret]; done) | (simp only [bind_okS, bind_ret, bind_bind]; done)))) fun places3 => (J_cons (S_for (Γl := fun places4 : (List Int) => [eD 0 (tRow tInt) t.1, eD 1 (tRow tInt) t.2.1, eO 2 tInt places4]) [0, 1, 2] (places3) (I_eq (I_rangeI T.n_range (E_lenT T.n_len (E_var 0))) (by first | with_reducible rfl | (simp only [bind_okS]; done) | (simp only [bind_okS, bind_ret]; done) | (simp only [bind_okS, bind_ret, bind_bind]; done))) (G_name 3) (fun places4 i5 => (J_cons (S_for (Γl := fun places6 : (List Int) => [eD 0 (tRow tInt) t.1, eD 1 (tRow tInt) t.2.1, eO 2 tInt places6, eD 3 tInt i5]) [0, 1, 2, 3] (places4) (I_eq (I_rangeI T.n_range (E_lenT T.n_len (E_var 1))) (by first | with_reducible rfl | (simp only [bind_okS]; done) | (simp only [bind_okS, bind_ret]; done) | (simp only [bind_okS, bind_ret, bind_bind]; done))) (G_name 4) (fun places6 j7 => (J_cons (S_eq (S_store 2 (E_add (E_ixL (E_own 2) (E_add (E_var 3) (E_var 4))) (E_mul (E_ixT (E_var 0) (E_var 3)) (E_ixT (E_var 1) (E_var 4)))) (E_add (E_var 3) (E_var 4))) (by first | with_reducible rfl | (simp only [bind_okS]; done) | (simp only [bind_okS, bind_ret]; done) | (simp only [bind_okS, bind_ret, bind_bind]; done))) fun places12 => (J_nil [0, 1, 2, 3] (places12))))) fun places14 => (J_nil [0, 1, 2] (places14))))) fun places15 => (J_last (S_retT (E_eq (E_tupleL T.n_tuple (E_own 2)) (by first | with_reducible rfl | (simp only [bind_okS]; done) | (simp only [bind_okS, bind_ret]; done) | (simp only [bind_okS, bind_ret, bind_bind]; done)))))))
theorem sc__law_monic : FnScope N__law_monic ["_law_found"] (defScope s__law_monic) := ⟨rfl, rfl, rfl, by decide +kernel, rfl, by decide +kernel, by decide +kernel⟩
theorem fx__law_monic (T : Facts K mg) : Fx P w K mg base "_law_monic" 2 (.cons (tRow tInt) .nil) (dat tBool) (fun t => m__law_monic t.1) :=
  fx_ret N__law_monic ["_law_found"] T.d__law_monic sc__law_monic rfl (fun _ _ _ _ _ _ us hl => match us, hl with | [_], _ => rfl) fun cdv f A outer s H E t => (J_ifrT (B_eq (B_w (W_or (B_not (B_val (E_isi (C := "tuple") (r := true) (ty_row _) (by decide +kernel) T.n_isinstance T.n_tuple (by decide +kernel) (E_var 0)))) (W_or1 (B_cmp op_lt (cp_lt _) (nomark _) (E_lenT T.n_len (E_var 0)) E_int)))) (by first | with_reducible rfl | (simp only [bind_okS]; done) | (simp only [bind_okS, bind_ret]; done) | (simp only [bind_okS, bind_ret, bind_bind]; done))) (J_last (S_retT (E_eq E_bool (by first | with_reducible rfl | (simp only [bind_okS]; done) | (simp only [bind_okS, bind_ret]; done) | (simp only [bind_okS, bind_ret, bind_bind]; done))))) (J_last (S_retT (E_eq (E_and (E_all T.n_all (E_borF (E_comp (C_map (own := [("_law_place", 1)]) (hok := (by first | (show blkC N__law_monic (defScope s__law_monic) _ _ = true; decide +kernel) | kernel_rfl)) (I_eq (I_tup (E_var 0)) (by first | with_reducible rfl | (simp only [bind_okS]; done) | (simp only [bind_okS, bind_ret]; done) | (simp only [bind_okS, bind_ret, bind_bind]; done))) (fun _ _ _ _ _ => (G_name 1)) (fun _ _ _ _ _ place4 => (E_eq (E_call (fx__law_whole T) (Nat.le_of_ble_eq_true rfl) (A_cons (E_var 1) fun _ => A_nil) [] rfl) (by first | with_reducible rfl | (simp only [bind_okS]; done) | (simp only [bind_okS, bind_ret]; done) | (simp only [bind_okS, bind_ret, bind_bind]; done)))))))) (E_one (E_cmp op_eq (cp_eq _) (nomark _) (E_ixT (E_var 0) (E_neg E_int)) E_int))) (by first | with_reducible rfl | (simp only [bind_okS]; done) | (simp only [bind_okS, bind_ret]; done) | (simp only [bind_okS, bind_ret, bind_bind]; done))))))
theorem sc__law_pair : FnScope N__law_pair ["_law_left", "_law_right", "_law_poly"] (defScope s__law_pair) := ⟨rfl, rfl, rfl, by decide +kernel, rfl, by decide +kernel, by decide +kernel⟩
theorem fx__law_pair (T : Facts K mg) : Fx P w K mg base "_law_pair" 3 (.cons (tRow tInt) (.cons (tRow tInt) (.cons (tRow tInt) .nil))) (dat tBool) (fun t => m__law_pair t.1 t.2.1 t.2.2.1) :=
  fx_ret N__law_pair ["_law_left", "_law_right", "_law_poly"] T.d__law_pair sc__law_pair rfl (fun _ _ _ _ _ _ us hl => match us, hl with | [_, _, _], _ => rfl) fun cdv f A outer s H E t => (J_ifrT (B_eq (B_w (W_or (B_not (B_val (E_call (fx__law_monic T) (Nat.le_of_ble_eq_true rfl) (A_cons (E_var 0) fun _ => A_nil) [] rfl))) (W_or1 (B_not (B_val (E_call (fx__law_monic T) (Nat.le_of_ble_eq_true rfl) (A_cons (E_var 1) fun _ => A_nil) [] rfl)))))) (by first | with_reducible rfl | (simp only [bind_okS]; done) | (simp only [bind_okS, bind_ret]; done) | (simp only [bind_okS, bind_ret, bind_bind]; done))) (J_last (S_retT (E_eq E_bool (by first | with_reducible rfl | (simp only [bind_okS]; done) | (simp only [bind_okS, bind_ret]; done) | (simp only [bind_okS, bind_ret, bind_bind]; done))))) (J_last (S_retT (E_eq (E_eqP (eRow eInt) (repD_dat (eRow eInt)) (repD_dat (eRow eInt)) (by decide) (E_call (fx__law_times_out T) (Nat.le_of_ble_eq_true rfl) (A_cons (E_var 0) fun _ => (A_cons (E_var 1) fun _ => A_nil)) [] rfl) (E_var 2)) (by first | with_reducible rfl | (simp only [bind_okS]; done) | (simp only [bind_okS, bind_ret]; done) | (simp only [bind_okS, bind_ret, bind_bind]; done))))))
theorem sc__law_drawn : FnScope N__law_drawn ["_law_cell_here"] (defScope s__law_drawn) := ⟨rfl, rfl, rfl, by decide +kernel, rfl, by decide +kernel, by decide +kernel⟩
theorem fx__law_drawn (T : Facts K mg) : Fx P w K mg base "_law_drawn" 3 (.cons tInt .nil) (dat (tRow tInt)) (fun t => m__law_drawn t.1) :=
  fx_ret N__law_drawn ["_law_cell_here"] T.d__law_drawn sc__law_drawn rfl (fun _ _ _ _ _ _ us hl => match us, hl with | [_], _ => rfl) fun cdv f A outer s H E t => (J_cons (S_set 1 (E_eq (E_frz (E_call (fx__law_draws T) (Nat.le_of_ble_eq_true rfl) (A_cons (E_var 0) fun _ => (A_cons (E_frz (E_eq (E_lst (I_cons E_int fun _ => (I_cons E_int fun _ => (I_cons E_int fun _ => I_nil)))) (psz_w (xs := [3, 6, 4]) rfl))) fun _ => (A_cons E_int fun _ => A_nil))) [] rfl)) (by first | with_reducible rfl | (simp only [bind_okS]; done) | (simp only [bind_okS, bind_ret]; done) | (simp only [bind_okS, bind_ret, bind_bind]; done)))) fun deep2 => (J_ifrT (B_eq (B_cmp op_eq (cp_eq _) (nomark _) (E_ixL (E_bor (E_var 1)) E_int) E_int) (by first | with_reducible rfl | (simp only [bind_okS]; done) | (simp only [bind_okS, bind_ret]; done) | (simp only [bind_okS, bind_ret, bind_bind]; done))) (J_cons (S_set 2 (E_eq (E_frz (E_eq (E_lst (I_cons (E_eq (E_row (I_cons E_int fun _ => (I_cons E_int fun _ => (I_cons E_int fun _ => I_nil)))) (psz_w (xs := [0, 499, 1]) rfl)) fun _ => (I_cons (E_eq (E_row (I_cons (E_neg E_int) fun _ => (I_cons E_int fun _ => (I_cons E_int fun _ => I_nil)))) (psz_w (xs := [(-499), 498, 1]) rfl)) fun _ => (I_cons (E_eq (E_row (I_cons E_int fun _ => (I_cons E_int fun _ => (I_cons E_int fun _ => I_nil)))) (psz_w (xs := [0, 0, 1]) rfl)) fun _ => (I_cons (E_eq (E_row (I_cons E_int fun _ => (I_cons E_int fun _ => (I_cons E_int fun _ => (I_cons E_int fun _ => (I_cons E_int fun _ => I_nil)))))) (psz_w (xs := [4, 0, 0, 0, 1]) rfl)) fun _ => (I_cons (E_eq (E_row (I_cons (E_neg E_int) fun _ => (I_cons E_int fun _ => (I_cons (E_neg E_int) fun _ => (I_cons E_int fun _ => I_nil))))) (psz_w (xs := [(-499), 1, (-499), 1]) rfl)) fun _ => (I_cons (E_eq (E_row (I_cons E_int fun _ => (I_cons E_int fun _ => (I_cons (E_neg E_int) fun _ => (I_cons E_int fun _ => (I_cons E_int fun _ => I_nil)))))) (psz_w (xs := [6, 0, (-5), 0, 1]) rfl)) fun _ => I_nil))))))) (psz_w (xs := [[0, 499, 1], [(-499), 498, 1], [0, 0, 1], [4, 0, 0, 0, 1], [(-499), 1, (-499), 1], [6, 0, (-5), 0, 1]]) rfl))) (by first | with_reducible rfl | (simp only [bind_okS]; done) | (simp only [bind_okS, bind_ret]; done) | (simp only [bind_okS, bind_ret, bind_bind]; done)))) fun named5 => (J_last (S_retT (E_eq (E_ixL (E_bor (E_var 2)) (E_ixL (E_bor (E_var 1)) E_int)) (by first | with_reducible rfl | (simp only [bind_okS]; done) | (simp only [bind_okS, bind_ret]; done) | (simp only [bind_okS, bind_ret, bind_bind]; done)))))) (J_cons (S_set 3 (E_eq (E_ixL (E_borF (E_eq (E_lst (I_cons (E_eq (E_row (I_cons E_int fun _ => (I_cons E_int fun _ => I_nil))) (psz_w (xs := [1, 1]) rfl)) fun _ => (I_cons (E_eq (E_row (I_cons E_int fun _ => (I_cons E_int fun _ => I_nil))) (psz_w (xs := [1, 2]) rfl)) fun _ => (I_cons (E_eq (E_row (I_cons E_int fun _ => (I_cons E_int fun _ => I_nil))) (psz_w (xs := [2, 1]) rfl)) fun _ => (I_cons (E_eq (E_row (I_cons E_int fun _ => (I_cons E_int fun _ => I_nil))) (psz_w (xs := [1, 3]) rfl)) fun _ => (I_cons (E_eq (E_row (I_cons E_int fun _ => (I_cons E_int fun _ => I_nil))) (psz_w (xs := [3, 1]) rfl)) fun _ => (I_cons (E_eq (E_row (I_cons E_int fun _ => (I_cons E_int fun _ => I_nil))) (psz_w (xs := [2, 2]) rfl)) fun _ => I_nil))))))) (psz_w (xs := [[1, 1], [1, 2], [2, 1], [1, 3], [3, 1], [2, 2]]) rfl))) (E_ixL (E_bor (E_var 1)) E_int)) (by first | with_reducible rfl | (simp only [bind_okS]; done) | (simp only [bind_okS, bind_ret]; done) | (simp only [bind_okS, bind_ret, bind_bind]; done)))) fun sides7 => (J_cons (S_set 4 (E_eq (E_frz (E_call (fx__law_draws T) (Nat.le_of_ble_eq_true rfl) (A_cons (E_var 0) fun _ => (A_cons (E_frz (E_eq (E_lst (I_cons E_int fun _ => (I_cons E_int fun _ => (I_cons E_int fun _ => (I_cons E_int fun _ => (I_cons E_int fun _ => (I_cons E_int fun _ => (I_cons E_int fun _ => I_nil)))))))) (psz_w (xs := [3, 6, 4, 31, 31, 31, 31]) rfl))) fun _ => (A_cons E_int fun _ => A_nil))) [] rfl)) (by first | with_reducible rfl | (simp only [bind_okS]; done) | (simp only [bind_okS, bind_ret]; done) | (simp only [bind_okS, bind_ret, bind_bind]; done)))) fun found9 => (J_cons (S_eq (S_compF 5 (C_map (own := [("_law_place", 8)]) (hok := (by first | (show blkC N__law_drawn (defScope s__law_drawn) _ _ = true; decide +kernel) | kernel_rfl)) (I_eq (I_list (E_frz (E_slL (E_bor (E_var 4)) (O_some E_int) O_none))) (by first | with_reducible rfl | (simp only [bind_okS]; done) | (simp only [bind_okS, bind_ret]; done) | (simp only [bind_okS, bind_ret, bind_bind]; done))) (fun _ _ _ _ _ => (G_name 8)) (fun _ _ _ _ _ place11 => (E_eq (E_sub (E_var 8) E_int) (by first | with_reducible rfl | (simp only [bind_okS]; done) | (simp only [bind_okS, bind_ret]; done) | (simp only [bind_okS, bind_ret, bind_bind]; done)))))) (by first | with_reducible rfl | (simp only [bind_okS]; done) | (simp only [bind_okS, bind_ret]; done) | (simp only [bind_okS, bind_ret, bind_bind]; done))) fun places10 => (J_cons (S_set 6 (E_eq (E_tupleL T.n_tuple (E_borF (E_cat (E_borTF (E_slL (E_bor (E_var 5)) O_none (O_some (E_ixT (E_var 3) E_int)))) (E_borTF (E_eq (E_lst (I_cons E_int fun _ => I_nil)) (psz_w (xs := [1]) rfl)))))) (by first | with_reducible rfl | (simp only [bind_okS]; done) | (simp only [bind_okS, bind_ret]; done) | (simp only [bind_okS, bind_ret, bind_bind]; done)))) fun left12 => (J_cons (S_set 7 (E_eq (E_tupleL T.n_tuple (E_borF (E_cat (E_borTF (E_slL (E_bor (E_var 5)) (O_some (E_ixT (E_var 3) E_int)) (O_some (E_add (E_ixT (E_var 3) E_int) (E_ixT (E_var 3) E_int))))) (E_borTF (E_eq (E_lst (I_cons E_int fun _ => I_nil)) (psz_w (xs := [1]) rfl)))))) (by first | with_reducible rfl | (simp only [bind_okS]; done) | (simp only [bind_okS, bind_ret]; done) | (simp only [bind_okS, bind_ret, bind_bind]; done)))) fun right15 => (J_cons (Γ1 := fun right27 : (List Int) => [eD 6 (tRow tInt) left12, eD 7 (tRow tInt) right27]) (S_if (B_eq (B_w (W_and (B_cmp op_eq (cp_eq _) (nomark _) (E_ixL (E_bor (E_var 1)) E_int) E_int) (W_and1 (B_cmp op_eq (cp_eq _) (nomark _) (E_ixT (E_var 3) E_int) (E_ixT (E_var 3) E_int))))) (by first | with_reducible rfl | (simp only [bind_okS]; done) | (simp only [bind_okS, bind_ret]; done) | (simp only [bind_okS, bind_ret, bind_bind]; done))) (J_cons (S_set 7 (E_eq (E_var 6) (by first | with_reducible rfl | (simp only [bind_okS]; done) | (simp only [bind_okS, bind_ret]; done) | (simp only [bind_okS, bind_ret, bind_bind]; done)))) fun right26 => (J_nil [6, 7] (right26))) (J_nil [6, 7] (right15))) fun right27 => (J_last (S_retT (E_eq (E_call (fx__law_times_out T) (Nat.le_of_ble_eq_true rfl) (A_cons (E_var 6) fun _ => (A_cons (E_var 7) fun _ => A_nil)) [] rfl) (by first | with_reducible rfl | (simp only [bind_okS]; done) | (simp only [bind_okS, bind_ret]; done) | (simp only [bind_okS, bind_ret, bind_bind]; done)))))))))))))
theorem sc__law_refused : FnScope N__law_refused ["_law_poly"] (defScope s__law_refused) := ⟨rfl, rfl, rfl, by decide +kernel, rfl, by decide +kernel, by decide +kernel⟩
theorem fx__law_refused (T : Facts K mg) : Fx P w K mg base "_law_refused" 11 (.cons (tRow tInt) .nil) (dat tBool) (fun t => m__law_refused t.1) :=
  fx_ret N__law_refused ["_law_poly"] T.d__law_refused sc__law_refused rfl (fun _ _ _ _ _ _ us hl => match us, hl with | [_], _ => rfl) fun cdv f A outer s H E t => (J_cons (S_set 1 (E_eq (E_rec2 (A_cons (E_eq (E_row I_nil) (psz_w (xs := ([] : List Int)) rfl)) fun _ => (A_cons (E_eq (E_row I_nil) (psz_w (xs := ([] : List Int)) rfl)) fun _ => A_nil))) (by first | with_reducible rfl | (simp only [bind_okS]; done) | (simp only [bind_okS, bind_ret]; done) | (simp only [bind_okS, bind_ret, bind_bind]; done)))) fun told2 => (J_cons (S_set 2 (E_eq E_bool (by first | with_reducible rfl | (simp only [bind_okS]; done) | (simp only [bind_okS, bind_ret]; done) | (simp only [bind_okS, bind_ret, bind_bind]; done)))) fun clean3 => (J_cons (Γ1 := fun s19 : ((List Int) × (List Int)) × Bool => [eD 0 (tRow tInt) t.1, eD 1 (tRec2 (tRow tInt) (tRow tInt)) s19.1, eD 2 tBool s19.2]) (S_tryH [0, 1, 2] [] (fun _ _ _ => (J_cons (S_eq (S_expr (E_make (fx_Ring T) (Nat.le_of_ble_eq_true rfl) (A_cons (E_var 0) fun _ => A_nil) [0, 1, 2] rfl)) (by first | with_reducible rfl | (simp only [bind_okS]; done) | (simp only [bind_okS, bind_ret]; done) | (simp only [bind_okS, bind_ret, bind_bind]; done))) fun _ => (J_nil [0, 1, 2] (told2, clean3)))) (HdT.named 3 T.sub_FallsApart rfl (by decide) rfl rfl (by intro t; first | rfl | (cases t <;> first | rfl | exact True.intro)) (fun e5 _ _ _ _ _ hz_e hf_e => (J_cons (S_set 1 (E_eq (E_rec2 (A_cons (E_xRow 3 T.fld_left hz_e hf_e) fun _ => (A_cons (E_xRow 3 T.fld_right hz_e hf_e) fun _ => A_nil))) (by first | with_reducible rfl | (simp only [bind_okS]; done) | (simp only [bind_okS, bind_ret]; done) | (simp only [bind_okS, bind_ret, bind_bind]; done)))) fun told6 => (J_cons (S_set 2 (E_eq (E_and (E_isiF 3 T.isi_RingError T.n_isinstance hz_e hf_e) (E_and (E_isiF 3 T.isi_ValueError T.n_isinstance hz_e hf_e) (E_one (E_not (E_isiF 3 T.isi_NoPolynomial T.n_isinstance hz_e hf_e))))) (by first | with_reducible rfl | (simp only [bind_okS]; done) | (simp only [bind_okS, bind_ret]; done) | (simp only [bind_okS, bind_ret, bind_bind]; done)))) fun clean9 => (J_cons (S_set 2 (E_eq (E_and (E_var 2) (E_and (E_not (E_isiF 3 T.isi_NotWhole T.n_isinstance hz_e hf_e)) (E_one (E_not (E_isiF 3 T.isi_TooGreat T.n_isinstance hz_e hf_e))))) (by first | with_reducible rfl | (simp only [bind_okS]; done) | (simp only [bind_okS, bind_ret]; done) | (simp only [bind_okS, bind_ret, bind_bind]; done)))) fun clean13 => (J_nil [0, 1, 2] (told6, clean13)))))) (HdT.plain T.sub_RingError rfl (by decide) (fun _ _ _ => (J_cons (S_set 2 (E_eq E_bool (by first | with_reducible rfl | (simp only [bind_okS]; done) | (simp only [bind_okS, bind_ret]; done) | (simp only [bind_okS, bind_ret, bind_bind]; done)))) fun clean18 => (J_nil [0, 1, 2] (told2, clean18)))) HdT.nil))) fun s19 => (J_last (S_retT (E_eq (E_and (E_var 2) (E_one (E_call (fx__law_pair T) (Nat.le_of_ble_eq_true rfl) (A_cons (E_fst (E_var 1) E_int) fun _ => (A_cons (E_snd (E_var 1) E_int) fun _ => (A_cons (E_var 0) fun _ => A_nil))) [] rfl))) (by first | with_reducible rfl | (simp only [bind_okS]; done) | (simp only [bind_okS, bind_ret]; done) | (simp only [bind_okS, bind_ret, bind_bind]; done))))))))
theorem sc_law : FnScope N_law ["_law_script"] (defScope s_law) := ⟨rfl, rfl, rfl, by decide +kernel, rfl, by decide +kernel, by decide +kernel⟩
theorem ok_law (T : Facts K mg) {f : Addr} {fd : FuncData} (F : Fun K "law" "law" s_law f fd) : FnOk P w K mg base (L2.CX P w) 12 f fd ["_law_script"] (spT K mg (.cons tScr .nil) (dat tBool) (fun t => m_law t.1)) :=
  fn_ret F sc_law rfl fun cdv A outer s H E t => (J_fl (fun a => a) (S_forF (Γl := fun s2 : Unit => [eD 0 tScr t.1]) [0] () (I_rangeK 2 (by decide) T.n_range E_int) (G_name 1) (fun s2 k3 => (J_cons (S_set 2 (E_eq (E_call (fx__law_drawn T) (Nat.le_of_ble_eq_true rfl) (A_cons (E_call (fx__law_cell T) (Nat.le_of_ble_eq_true rfl) (A_cons (E_var 0) fun _ => (A_cons (E_var 1) fun _ => A_nil)) [] rfl) fun _ => A_nil) [] rfl) (by first | with_reducible rfl | (simp only [bind_okS]; done) | (simp only [bind_okS, bind_ret]; done) | (simp only [bind_okS, bind_ret, bind_bind]; done)))) fun poly4 => (J_cons (S_set 3 (E_eq (E_call (fx_apart T) (Nat.le_of_ble_eq_true rfl) (A_cons (E_var 2) fun _ => A_nil) [] rfl) (by first | with_reducible rfl | (simp only [bind_okS]; done) | (simp only [bind_okS, bind_ret]; done) | (simp only [bind_okS, bind_ret, bind_bind]; done)))) fun found6 => (J_ifr (fun a => Fl.rt a) (B_eq (B_w (W_or (B_not (B_val (E_isiO (C := "tuple") (ty_rec2 _ _) (by decide +kernel) (by decide +kernel) T.n_isinstance T.n_tuple (by decide +kernel) (E_var 3)))) (W_or1 (B_cmp op_ne (cp_ne _) (nomark _) (E_lenR2 T.n_len (E_unO (E_var 3))) E_int)))) (by first | with_reducible rfl | (simp only [bind_okS]; done) | (simp only [bind_okS, bind_ret]; done) | (simp only [bind_okS, bind_ret, bind_bind]; done))) (J_last (S_retT (E_eq E_bool (by first | with_reducible rfl | (simp only [bind_okS]; done) | (simp only [bind_okS, bind_ret]; done) | (simp only [bind_okS, bind_ret, bind_bind]; done))))) (J_last (S_if (B_eq (B_w (W_or (B_not (B_val (E_call (fx__law_pair T) (Nat.le_of_ble_eq_true rfl) (A_cons (E_fst (E_unO (E_var 3)) E_int) fun _ => (A_cons (E_snd (E_unO (E_var 3)) E_int) fun _ => (A_cons (E_var 2) fun _ => A_nil))) [] rfl))) (W_or1 (B_not (B_val (E_call (fx__law_refused T) (Nat.le_of_ble_eq_true rfl) (A_cons (E_var 2) fun _ => A_nil) [] rfl)))))) (by first | with_reducible rfl | (simp only [bind_okS]; done) | (simp only [bind_okS, bind_ret]; done) | (simp only [bind_okS, bind_ret, bind_bind]; done))) (J_last (S_ret (fun a => Fl.rt a) (E_eq E_bool (by first | with_reducible rfl | (simp only [bind_okS]; done) | (simp only [bind_okS, bind_ret]; done) | (simp only [bind_okS, bind_ret, bind_bind]; done))))) (J_nil [0] (Fl.nx ()))))))))) fun s21 => (J_last (S_retT (E_eq E_bool (by first | with_reducible rfl | (simp only [bind_okS]; done) | (simp only [bind_okS, bind_ret]; done) | (simp only [bind_okS, bind_ret, bind_bind]; done))))))
end
end K11Law

set_option maxRecDepth 100000
set_option maxHeartbeats 4000000
namespace K11Law
open T PySem PySem.Spec PyProof.Rows L2
theorem e_cell : m__law_cell = m_cell := rfl
theorem e_draws : m__law_draws = m_draws := rfl
theorem e_apart : m_apart = T.m_apart := rfl
theorem e_Ring : m_Ring = T.m_Ring := rfl
theorem pget_last {L : List Int} (h : 0 < L.length) : pget L (-1) = ok (co L (L.length - 1)) := by
  obtain ⟨g, a, rfl⟩ : ∃ g a, L = g ++ [a] := ⟨L.dropLast, L.getLast (by intro z; subst z; simp at h), (List.dropLast_concat_getLast _).symm⟩
  rw [pget_end, List.length_append, co_append_r (by simp)]
  simp [co]
theorem monic_ok {g : List Int} (h2 : 2 ≤ g.length) (hl : g.length ≤ 1000) (ht : co g (g.length - 1) = 1) : m__law_monic g = ok true := by
  unfold m__law_monic
  rw [bind_ok, if_neg (by decide), bind_ok, if_neg (by simp; omega), mapC_ok (f := fun place4 => m__law_whole place4) (g := fun _ => true) (fun _ _ => rfl) (by rw [sizeLineE]; omega), bind_ok, bind_ok]
  have : List.all (g.map fun _ => true) id = true := by
    rw [List.all_eq_true]
    intro y hy
    obtain ⟨_, _, rfl⟩ := List.mem_map.mp hy
    rfl
  rw [this, if_pos rfl, pget_last (by omega), ht, bind_ok]
  rfl
theorem out_ok {L R : List Int} {a b : Nat} (hL : 1 ≤ L.length) (hR : 1 ≤ R.length) (lL : L.length ≤ 100) (lR : R.length ≤ 100) (sL : ∀ x ∈ L, Sm a x) (sR : ∀ x ∈ R, Sm b x) (hab : a + b < 1000000) :
    ∃ q, m__law_times_out L R = ok q ∧ q.length = L.length + R.length - 1 ∧ ∀ t, co q t = co (mulP L R) t := by
  unfold m__law_times_out
  rw [show (L.length : Int) + (R.length : Int) - 1 = ((L.length + R.length - 1 : Nat) : Int) by omega, prep0 (by omega), bind_ok, pr_nat (by omega), bind_ok]
  obtain ⟨q, e, l, c⟩ := timesInto (N := L.length + R.length - 1) (f := L) (g := R) (L := List.replicate (L.length + R.length - 1) 0) (row := fun (raw4 : (List Int)) i5 => (M.bind (M.bind (prangeI (R.length : Int)) fun xs => loopM (fun (raw6 : (List Int)) j7 => (M.bind (M.bind (M.bind (pget raw6 (i5 + j7)) fun u10 => M.bind (M.bind (pget L i5) fun u8 => M.bind (pget R j7) fun u9 => (pmul u8 u9)) fun u11 => ok (u10 + u11)) fun u13 => (pset raw6 (i5 + j7) u13)) fun raw12 => ok (raw12))) (raw4) xs) fun raw14 => ok (raw14))) (by simp) (by omega) (co_rep0 _) fun cc i hcc hi => by
    refine Tot.bind (P := fun c' : List Int => c'.length = L.length + R.length - 1 ∧ ∀ t, co c' t = co cc t + if i ≤ t ∧ t < i + R.length then co L i * co R (t - i) else 0) ?_ fun c' h => .ok h
    rw [pr_nat (by omega), bind_ok]
    refine addInto (n := R.length) (s := fun j => co L i * co R j) hcc (by omega) fun d j hd hj => ?_
    have eij : (i : Int) + (j : Int) = ((i + j : Nat) : Int) := by omega
    rw [eij, pget_co (by omega), bind_ok, pget_co (by omega), bind_ok, pget_co (by omega), bind_ok, mul_sm (sL _ (co_mem (by omega))) (sR _ (co_mem (by omega))) (by omega), bind_ok, bind_ok, pset_nat (by omega), bind_ok]
  exact ⟨q, by rw [e, bind_ok], l, c⟩
theorem law_pair_ok {g k f : List Int} (h : PairOf g k f) (hf : f.length ≤ 100) : m__law_pair g k f = ok true := by
  have lg := h.lg
  have lk := h.lh
  have ll := h.len
  obtain ⟨q, e, l, c⟩ := out_ok (L := g) (R := k) (by omega) (by omega) (by omega) (by omega) h.sg h.sh (by decide)
  have hq : q = f := List.ext_getElem (by omega) fun i h1 h2 => by
    have e1 := (c i).trans (h.mul i)
    rwa [co_get h1, co_get h2] at e1
  unfold m__law_pair
  rw [monic_ok lg (by omega) h.tg, bind_ok, bind_ok, if_neg (by decide), monic_ok lk (by omega) h.th, bind_ok, bind_ok, if_neg (by decide), e, bind_ok, hq, decide_eq_true rfl]

theorem check_gd {P : List Int} (h : Gd P) : T.m_check_poly P = ok () := by
  have hl := h.len
  refine check_ok hl.1 hl.2 ?_ h.mem
  obtain ⟨g, e, _⟩ := h
  rw [e, pget_end]
/-- Ring refuses what falls apart, with the two factors -/
theorem refused_ok {P : List Int} (hg : Gd P) {g k : List Int} (e : T.m_apart P = ok (some (g, k))) (hp : PairOf g k P) : m__law_refused P = ok true := by
  have er : T.m_Ring P = exc ⟨"FallsApart", [("right", XF.row k), ("left", XF.row g)]⟩ := by
    unfold T.m_Ring
    rw [e, bind_ok, bind_ok, if_pos (show (some (g, k) : Option (List Int × List Int)).isSome = true from rfl), unO_some, bind_ok, bind_ok, bind_ok, bind_ok]
    rfl
  unfold m__law_refused
  rw [e_Ring, er, bind_ok, bind_ok, bind_exc, bind_exc, tryH_exc]
  have hgo : ∀ (cs : List (List (Str × Bool) × (Ex → M ((List Int × List Int) × Bool)))) (f : Ex → M ((List Int × List Int) × Bool)), f ⟨"FallsApart", [("right", XF.row k), ("left", XF.row g)]⟩ = ok ((g, k), true) → goH ((tbl_FallsApart, f) :: cs) ⟨"FallsApart", [("right", XF.row k), ("left", XF.row g)]⟩ = ok ((g, k), true) := fun cs f hf => by
    unfold goH
    rw [show tbl_FallsApart.lookup ("FallsApart" : Str) = some true by decide +kernel]
    show noX (f _) = _
    rw [hf]
    rfl
  rw [hgo _ _ (by rfl), bind_ok, bind_ok, if_pos rfl]
  exact law_pair_ok hp (by have := hg.len; omega)

theorem ws0 : Widths [3, 6, 4] := .of
theorem ws1 : Widths [3, 6, 4, 31, 31, 31, 31] := .of
def Okf (P : List Int) : Prop := Gd P ∧ Fa P
theorem prod_is {L R q : List Int} {e : List Int} (h : m__law_times_out L R = ok q) (hl : q.length = e.length) (hc : ∀ t, co q t = co (mulP L R) t) (he : ∀ t, co (mulP L R) t = co e t) : m__law_times_out L R = ok e := by
  have : q = e := List.ext_getElem hl fun i h1 h2 => by
    have e1 := (hc i).trans (he i)
    rwa [co_get h1, co_get h2] at e1
  rw [h, this]
theorem sm15 {L : List Int} (h : ∀ x ∈ L, x.natAbs ≤ 15) : ∀ x ∈ L, Sm 9 x := fun x hx => sm499 (by have := h x hx; omega)
theorem m15 {a b : Int} (ha : a.natAbs ≤ 15) (hb : b.natAbs ≤ 15) : (a * b).natAbs ≤ 225 := by rw [Int.natAbs_mul]; exact Nat.mul_le_mul ha hb
/-- products of two monic rows fall apart -/
theorem out11 {a b : Int} (ha : a.natAbs ≤ 15) (hb : b.natAbs ≤ 15) : Tot (m__law_times_out [a, 1] [b, 1]) Okf := by
  obtain ⟨q, e, l, c⟩ := out_ok (L := [a, 1]) (R := [b, 1]) (a := 9) (b := 9) (by simp) (by simp) (by simp) (by simp) (sm15 fun x hx => by simp at hx; rcases hx with rfl | rfl <;> omega) (sm15 fun x hx => by simp at hx; rcases hx with rfl | rfl <;> omega) (by decide)
  have e2 := prod_is (e := [a * b, a + b, 1]) e (by simpa using l) c fun t => by
    match t with
    | 0 => simp [mulP, addP, scaleP, co]
    | 1 => simp [mulP, addP, scaleP, co]
    | 2 => simp [mulP, addP, scaleP, co]
    | t + 3 => simp [mulP, addP, scaleP, co]
  have hm := m15 ha hb
  refine ⟨_, e2, ⟨[a * b, a + b], rfl, by simp, by simp, fun x hx => ?_⟩, .inl ⟨-a, ?_⟩⟩
  · simp only [List.mem_cons, List.not_mem_nil, or_false] at hx
    rcases hx with rfl | rfl <;> omega
  · show a * b + -a * ((a + b) + -a * (1 + -a * 0)) = 0
    grind
theorem out12 {a b c : Int} (ha : a.natAbs ≤ 15) (hb : b.natAbs ≤ 15) (hc : c.natAbs ≤ 15) : Tot (m__law_times_out [a, 1] [b, c, 1]) Okf := by
  obtain ⟨qq, ee, ll, cc⟩ := out_ok (L := [a, 1]) (R := [b, c, 1]) (a := 9) (b := 9) (by simp) (by simp) (by simp) (by simp) (sm15 fun x hx => by simp at hx; rcases hx with rfl | rfl <;> omega) (sm15 fun x hx => by simp at hx; rcases hx with rfl | rfl | rfl <;> omega) (by decide)
  have e2 := prod_is (e := [a * b, a * c + b, a + c, 1]) ee (by simpa using ll) cc fun t => by
    match t with
    | 0 => first | (simp [mulP, addP, scaleP, co]; done) | (simp [mulP, addP, scaleP, co]; grind)
    | 1 => first | (simp [mulP, addP, scaleP, co]; done) | (simp [mulP, addP, scaleP, co]; grind)
    | 2 => first | (simp [mulP, addP, scaleP, co]; done) | (simp [mulP, addP, scaleP, co]; grind)
    | 3 => first | (simp [mulP, addP, scaleP, co]; done) | (simp [mulP, addP, scaleP, co]; grind)
    | t + 4 => simp [mulP, addP, scaleP, co]
  have hm_a_b := m15 ha hb
  have hm_a_c := m15 ha hc
  refine ⟨_, e2, ⟨[a * b, a * c + b, a + c], rfl, by simp, by simp, fun x hx => ?_⟩, .inl ⟨-a, ?_⟩⟩
  · simp only [List.mem_cons, List.not_mem_nil, or_false] at hx
    rcases hx with rfl | rfl | rfl <;> omega
  · show a * b + -a * ((a * c + b) + -a * ((a + c) + -a * (1 + -a * 0))) = 0
    grind
theorem out21 {a b c : Int} (ha : a.natAbs ≤ 15) (hb : b.natAbs ≤ 15) (hc : c.natAbs ≤ 15) : Tot (m__law_times_out [b, c, 1] [a, 1]) Okf := by
  obtain ⟨qq, ee, ll, cc⟩ := out_ok (L := [b, c, 1]) (R := [a, 1]) (a := 9) (b := 9) (by simp) (by simp) (by simp) (by simp) (sm15 fun x hx => by simp at hx; rcases hx with rfl | rfl | rfl <;> omega) (sm15 fun x hx => by simp at hx; rcases hx with rfl | rfl <;> omega) (by decide)
  have e2 := prod_is (e := [a * b, a * c + b, a + c, 1]) ee (by simpa using ll) cc fun t => by
    match t with
    | 0 => first | (simp [mulP, addP, scaleP, co]; done) | (simp [mulP, addP, scaleP, co]; grind)
    | 1 => first | (simp [mulP, addP, scaleP, co]; done) | (simp [mulP, addP, scaleP, co]; grind)
    | 2 => first | (simp [mulP, addP, scaleP, co]; done) | (simp [mulP, addP, scaleP, co]; grind)
    | 3 => first | (simp [mulP, addP, scaleP, co]; done) | (simp [mulP, addP, scaleP, co]; grind)
    | t + 4 => simp [mulP, addP, scaleP, co]
  have hm_a_b := m15 ha hb
  have hm_a_c := m15 ha hc
  refine ⟨_, e2, ⟨[a * b, a * c + b, a + c], rfl, by simp, by simp, fun x hx => ?_⟩, .inl ⟨-a, ?_⟩⟩
  · simp only [List.mem_cons, List.not_mem_nil, or_false] at hx
    rcases hx with rfl | rfl | rfl <;> omega
  · show a * b + -a * ((a * c + b) + -a * ((a + c) + -a * (1 + -a * 0))) = 0
    grind
theorem out13 {a b c d : Int} (ha : a.natAbs ≤ 15) (hb : b.natAbs ≤ 15) (hc : c.natAbs ≤ 15) (hd : d.natAbs ≤ 15) : Tot (m__law_times_out [a, 1] [b, c, d, 1]) Okf := by
  obtain ⟨qq, ee, ll, cc⟩ := out_ok (L := [a, 1]) (R := [b, c, d, 1]) (a := 9) (b := 9) (by simp) (by simp) (by simp) (by simp) (sm15 fun x hx => by simp at hx; rcases hx with rfl | rfl <;> omega) (sm15 fun x hx => by simp at hx; rcases hx with rfl | rfl | rfl | rfl <;> omega) (by decide)
  have e2 := prod_is (e := [a * b, a * c + b, a * d + c, a + d, 1]) ee (by simpa using ll) cc fun t => by
    match t with
    | 0 => first | (simp [mulP, addP, scaleP, co]; done) | (simp [mulP, addP, scaleP, co]; grind)
    | 1 => first | (simp [mulP, addP, scaleP, co]; done) | (simp [mulP, addP, scaleP, co]; grind)
    | 2 => first | (simp [mulP, addP, scaleP, co]; done) | (simp [mulP, addP, scaleP, co]; grind)
    | 3 => first | (simp [mulP, addP, scaleP, co]; done) | (simp [mulP, addP, scaleP, co]; grind)
    | 4 => first | (simp [mulP, addP, scaleP, co]; done) | (simp [mulP, addP, scaleP, co]; grind)
    | t + 5 => simp [mulP, addP, scaleP, co]
  have hm_a_b := m15 ha hb
  have hm_a_c := m15 ha hc
  have hm_a_d := m15 ha hd
  refine ⟨_, e2, ⟨[a * b, a * c + b, a * d + c, a + d], rfl, by simp, by simp, fun x hx => ?_⟩, .inl ⟨-a, ?_⟩⟩
  · simp only [List.mem_cons, List.not_mem_nil, or_false] at hx
    rcases hx with rfl | rfl | rfl | rfl <;> omega
  · show a * b + -a * ((a * c + b) + -a * ((a * d + c) + -a * ((a + d) + -a * (1 + -a * 0)))) = 0
    grind
theorem out31 {a b c d : Int} (ha : a.natAbs ≤ 15) (hb : b.natAbs ≤ 15) (hc : c.natAbs ≤ 15) (hd : d.natAbs ≤ 15) : Tot (m__law_times_out [b, c, d, 1] [a, 1]) Okf := by
  obtain ⟨qq, ee, ll, cc⟩ := out_ok (L := [b, c, d, 1]) (R := [a, 1]) (a := 9) (b := 9) (by simp) (by simp) (by simp) (by simp) (sm15 fun x hx => by simp at hx; rcases hx with rfl | rfl | rfl | rfl <;> omega) (sm15 fun x hx => by simp at hx; rcases hx with rfl | rfl <;> omega) (by decide)
  have e2 := prod_is (e := [a * b, a * c + b, a * d + c, a + d, 1]) ee (by simpa using ll) cc fun t => by
    match t with
    | 0 => first | (simp [mulP, addP, scaleP, co]; done) | (simp [mulP, addP, scaleP, co]; grind)
    | 1 => first | (simp [mulP, addP, scaleP, co]; done) | (simp [mulP, addP, scaleP, co]; grind)
    | 2 => first | (simp [mulP, addP, scaleP, co]; done) | (simp [mulP, addP, scaleP, co]; grind)
    | 3 => first | (simp [mulP, addP, scaleP, co]; done) | (simp [mulP, addP, scaleP, co]; grind)
    | 4 => first | (simp [mulP, addP, scaleP, co]; done) | (simp [mulP, addP, scaleP, co]; grind)
    | t + 5 => simp [mulP, addP, scaleP, co]
  have hm_a_b := m15 ha hb
  have hm_a_c := m15 ha hc
  have hm_a_d := m15 ha hd
  refine ⟨_, e2, ⟨[a * b, a * c + b, a * d + c, a + d], rfl, by simp, by simp, fun x hx => ?_⟩, .inl ⟨-a, ?_⟩⟩
  · simp only [List.mem_cons, List.not_mem_nil, or_false] at hx
    rcases hx with rfl | rfl | rfl | rfl <;> omega
  · show a * b + -a * ((a * c + b) + -a * ((a * d + c) + -a * ((a + d) + -a * (1 + -a * 0)))) = 0
    grind
theorem out22 {a b c d : Int} (ha : a.natAbs ≤ 15) (hb : b.natAbs ≤ 15) (hc : c.natAbs ≤ 15) (hd : d.natAbs ≤ 15) : Tot (m__law_times_out [a, b, 1] [c, d, 1]) Okf := by
  obtain ⟨qq, ee, ll, cc⟩ := out_ok (L := [a, b, 1]) (R := [c, d, 1]) (a := 9) (b := 9) (by simp) (by simp) (by simp) (by simp) (sm15 fun x hx => by simp at hx; rcases hx with rfl | rfl | rfl <;> omega) (sm15 fun x hx => by simp at hx; rcases hx with rfl | rfl | rfl <;> omega) (by decide)
  have e2 := prod_is (e := [a * c, a * d + b * c, a + b * d + c, b + d, 1]) ee (by simpa using ll) cc fun t => by
    match t with
    | 0 => first | (simp [mulP, addP, scaleP, co]; done) | (simp [mulP, addP, scaleP, co]; grind)
    | 1 => first | (simp [mulP, addP, scaleP, co]; done) | (simp [mulP, addP, scaleP, co]; grind)
    | 2 => first | (simp [mulP, addP, scaleP, co]; done) | (simp [mulP, addP, scaleP, co]; grind)
    | 3 => first | (simp [mulP, addP, scaleP, co]; done) | (simp [mulP, addP, scaleP, co]; grind)
    | 4 => first | (simp [mulP, addP, scaleP, co]; done) | (simp [mulP, addP, scaleP, co]; grind)
    | t + 5 => simp [mulP, addP, scaleP, co]
  have hm_a_c := m15 ha hc
  have hm_a_d := m15 ha hd
  have hm_b_c := m15 hb hc
  have hm_b_d := m15 hb hd
  refine ⟨_, e2, ⟨[a * c, a * d + b * c, a + b * d + c, b + d], rfl, by simp, by simp, fun x hx => ?_⟩, .inr ⟨_, _, _, _, a, rfl, b, c, d, rfl, rfl, by omega, rfl⟩⟩
  · simp only [List.mem_cons, List.not_mem_nil, or_false] at hx
    rcases hx with rfl | rfl | rfl | rfl <;> omega
end K11Law

set_option maxRecDepth 100000
set_option maxHeartbeats 4000000
namespace K11Law
open T PySem PySem.Spec PyProof.Rows L2
theorem named_ok {w1 : Int} (w1c : w1 = 0 ∨ w1 = 1 ∨ w1 = 2 ∨ w1 = 3 ∨ w1 = 4 ∨ w1 = 5) : Tot (pget [[0, 499, 1], [(-499), 498, 1], [0, 0, 1], [4, 0, 0, 0, 1], [(-499), 1, (-499), 1], [6, 0, (-5), 0, 1]] w1) Okf := by
  rcases w1c with rfl | rfl | rfl | rfl | rfl | rfl
  · exact ⟨[0, 499, 1], rfl, ⟨[0, 499], rfl, by decide, by decide, by decide⟩, .inl ⟨0, by decide⟩⟩
  · exact ⟨[-499, 498, 1], rfl, ⟨[-499, 498], rfl, by decide, by decide, by decide⟩, .inl ⟨1, by decide⟩⟩
  · exact ⟨[0, 0, 1], rfl, ⟨[0, 0], rfl, by decide, by decide, by decide⟩, .inl ⟨0, by decide⟩⟩
  · exact ⟨[4, 0, 0, 0, 1], rfl, ⟨[4, 0, 0, 0], rfl, by decide, by decide, by decide⟩, .inr ⟨4, 0, 0, 0, 2, rfl, 2, 2, -2, by decide, by decide, by decide, by decide⟩⟩
  · exact ⟨[-499, 1, -499, 1], rfl, ⟨[-499, 1, -499], rfl, by decide, by decide, by decide⟩, .inl ⟨499, by decide⟩⟩
  · exact ⟨[6, 0, -5, 0, 1], rfl, ⟨[6, 0, -5, 0], rfl, by decide, by decide, by decide⟩, .inr ⟨6, 0, -5, 0, -2, rfl, 0, -3, 0, by decide, by decide, by decide, by decide⟩⟩
theorem drawn_ok (cell : Int) : Tot (m__law_drawn cell) Okf := by
  unfold m__law_drawn
  rw [e_draws]
  obtain ⟨rs, ers, hd⟩ := draws_ok cell (prime := 999999937) ws0 (by decide)
  obtain ⟨qs, eqs, hq⟩ := draws_ok cell (prime := 999999937) ws1 (by decide)
  obtain ⟨w0, q0, a0, b0⟩ := hd.at (i := 0) (w := 3) rfl
  obtain ⟨w1, q1, a1, b1⟩ := hd.at (i := 1) (w := 6) rfl
  obtain ⟨w2, q2, a2, b2⟩ := hd.at (i := 2) (w := 4) rfl
  have p0 : pget rs 0 = ok w0 := pget_some (i := 0) q0
  have p1 : pget rs 1 = ok w1 := pget_some (i := 1) q1
  have p2 : pget rs 2 = ok w2 := pget_some (i := 2) q2
  have hql : qs.length = 7 := hq.1
  have hqb := hq.below (B := 999)
  have g3 : ∀ i w, i < 4 → ([3, 6, 4, 31, 31, 31, 31] : List Int)[i + 3]? = some w → w = 31 := fun i w hi h => by
    match i, hi with
    | 0, _ => simpa using h.symm
    | 1, _ => simpa using h.symm
    | 2, _ => simpa using h.symm
    | 3, _ => simpa using h.symm
  have w1c : w1 = 0 ∨ w1 = 1 ∨ w1 = 2 ∨ w1 = 3 ∨ w1 = 4 ∨ w1 = 5 := by omega
  rw [ers, bind_ok, p0, bind_ok, bind_ok]
  refine .ite (fun _ => ?_) fun n2 => ?_
  · rw [bind_ok, p1, bind_ok]
    exact named_ok w1c
  · have hc : cutL qs (some 3) none = qs.drop 3 := cutL_from 3 (by omega)
    have ld : (qs.drop 3).length = 4 := by rw [List.length_drop, hql]
    obtain ⟨y0, y1, y2, y3, hy⟩ := len4 ld
    have hb : ∀ y ∈ [y0, y1, y2, y3], 0 ≤ y ∧ y < 31 := fun y hyy => by
      obtain ⟨i, hi⟩ := List.getElem?_of_mem (hy ▸ hyy : y ∈ qs.drop 3)
      have hil := (List.getElem?_eq_some_iff.mp hi).1
      rw [List.getElem?_drop] at hi
      have hw : ∃ w, ([3, 6, 4, 31, 31, 31, 31] : List Int)[i + 3]? = some w := ⟨_, List.getElem?_eq_getElem (by show i + 3 < 7; omega)⟩
      obtain ⟨w, hw⟩ := hw
      have h31 := g3 i w (by omega) hw
      have := hq.2 (i + 3) w y hw (by rw [Nat.add_comm]; exact hi)
      omega
    have z0 := hb y0 (by simp)
    have z1 := hb y1 (by simp)
    have z2 := hb y2 (by simp)
    have z3 := hb y3 (by simp)
    have em : mapC (fun place11 : Int => (ok (place11 - 15) : M Int)) (qs.drop 3) = ok [y0 - 15, y1 - 15, y2 - 15, y3 - 15] := by
      rw [mapC_ok (g := fun x : Int => x - 15) (fun _ _ => rfl) (by rw [sizeLineE, ld]; omega), hy]
      rfl
    have n0 : (y0 - 15).natAbs ≤ 15 := by omega
    have n1 : (y1 - 15).natAbs ≤ 15 := by omega
    have n2' : (y2 - 15).natAbs ≤ 15 := by omega
    have n3 : (y3 - 15).natAbs ≤ 15 := by omega
    generalize y0 - 15 = u0 at em n0
    generalize y1 - 15 = u1 at em n1
    generalize y2 - 15 = u2 at em n2'
    generalize y3 - 15 = u3 at em n3
    rw [p1, bind_ok, p2]
    have pcs : ∀ (x : List Int), x.length ≤ 10 → pcat x [1] = ok (x ++ [1]) := fun x h => pcat_ok (by simp; omega)
    have pgA : ∀ (a b : Int), pget [a, b] 0 = ok a := fun _ _ => pg0 _ _
    have pgB : ∀ (a b : Int), pget [a, b] 1 = ok b := fun _ _ => pg1 _ _ _
    have cutm : ∀ (m : Nat), cutL [u0, u1, u2, u3] none (some (m : Int)) = [u0, u1, u2, u3].take m := fun m => cutL_take _ m
    rcases w1c with rfl | rfl | rfl | rfl | rfl | rfl
    · have e1 : pget ([[1, 1], [1, 2], [2, 1], [1, 3], [3, 1], [2, 2]] : List (List Int)) 0 = ok [1, 1] := rfl
      have cL : cutL [u0, u1, u2, u3] none (some (1 : Int)) = [u0] := rfl
      have cR : cutL [u0, u1, u2, u3] (some (1 : Int)) (some ((1 : Int) + 1)) = [u1] := rfl
      simp only [e1, bind_okS, eqs, hc, em, pgA, pgB, cL, cR, pcs _ (show ([u0] : List Int).length ≤ 10 by simp), pcs _ (show ([u1] : List Int).length ≤ 10 by simp), List.cons_append, List.nil_append]
      by_cases h : w2 = 0
      · rw [decide_eq_true h, if_pos rfl, decide_true, bind_ok, if_pos rfl, bind_ok]
        exact out11 n0 n0
      · rw [decide_eq_false h, if_neg (by decide), bind_ok, if_neg (by decide), bind_ok]
        exact out11 n0 n1
    · have e1 : pget ([[1, 1], [1, 2], [2, 1], [1, 3], [3, 1], [2, 2]] : List (List Int)) 1 = ok [1, 2] := rfl
      have cL : cutL [u0, u1, u2, u3] none (some (1 : Int)) = [u0] := rfl
      have cR : cutL [u0, u1, u2, u3] (some (1 : Int)) (some ((1 : Int) + 2)) = [u1, u2] := rfl
      simp only [e1, bind_okS, eqs, hc, em, pgA, pgB, cL, cR, pcs _ (show ([u0] : List Int).length ≤ 10 by simp), pcs _ (show ([u1, u2] : List Int).length ≤ 10 by simp), List.cons_append, List.nil_append]
      have hne : (if decide (w2 = 0) = true then ok (decide ((1 : Int) = 2)) else ok false : M Bool) = ok false := by split <;> rfl
      rw [hne, bind_ok, if_neg (by decide), bind_ok]
      exact out12 n0 n1 n2'
    · have e1 : pget ([[1, 1], [1, 2], [2, 1], [1, 3], [3, 1], [2, 2]] : List (List Int)) 2 = ok [2, 1] := rfl
      have cL : cutL [u0, u1, u2, u3] none (some (2 : Int)) = [u0, u1] := rfl
      have cR : cutL [u0, u1, u2, u3] (some (2 : Int)) (some ((2 : Int) + 1)) = [u2] := rfl
      simp only [e1, bind_okS, eqs, hc, em, pgA, pgB, cL, cR, pcs _ (show ([u0, u1] : List Int).length ≤ 10 by simp), pcs _ (show ([u2] : List Int).length ≤ 10 by simp), List.cons_append, List.nil_append]
      have hne : (if decide (w2 = 0) = true then ok (decide ((2 : Int) = 1)) else ok false : M Bool) = ok false := by split <;> rfl
      rw [hne, bind_ok, if_neg (by decide), bind_ok]
      exact out21 n2' n0 n1
    · have e1 : pget ([[1, 1], [1, 2], [2, 1], [1, 3], [3, 1], [2, 2]] : List (List Int)) 3 = ok [1, 3] := rfl
      have cL : cutL [u0, u1, u2, u3] none (some (1 : Int)) = [u0] := rfl
      have cR : cutL [u0, u1, u2, u3] (some (1 : Int)) (some ((1 : Int) + 3)) = [u1, u2, u3] := rfl
      simp only [e1, bind_okS, eqs, hc, em, pgA, pgB, cL, cR, pcs _ (show ([u0] : List Int).length ≤ 10 by simp), pcs _ (show ([u1, u2, u3] : List Int).length ≤ 10 by simp), List.cons_append, List.nil_append]
      have hne : (if decide (w2 = 0) = true then ok (decide ((1 : Int) = 3)) else ok false : M Bool) = ok false := by split <;> rfl
      rw [hne, bind_ok, if_neg (by decide), bind_ok]
      exact out13 n0 n1 n2' n3
    · have e1 : pget ([[1, 1], [1, 2], [2, 1], [1, 3], [3, 1], [2, 2]] : List (List Int)) 4 = ok [3, 1] := rfl
      have cL : cutL [u0, u1, u2, u3] none (some (3 : Int)) = [u0, u1, u2] := rfl
      have cR : cutL [u0, u1, u2, u3] (some (3 : Int)) (some ((3 : Int) + 1)) = [u3] := rfl
      simp only [e1, bind_okS, eqs, hc, em, pgA, pgB, cL, cR, pcs _ (show ([u0, u1, u2] : List Int).length ≤ 10 by simp), pcs _ (show ([u3] : List Int).length ≤ 10 by simp), List.cons_append, List.nil_append]
      have hne : (if decide (w2 = 0) = true then ok (decide ((3 : Int) = 1)) else ok false : M Bool) = ok false := by split <;> rfl
      rw [hne, bind_ok, if_neg (by decide), bind_ok]
      exact out31 n3 n0 n1 n2'
    · have e1 : pget ([[1, 1], [1, 2], [2, 1], [1, 3], [3, 1], [2, 2]] : List (List Int)) 5 = ok [2, 2] := rfl
      have cL : cutL [u0, u1, u2, u3] none (some (2 : Int)) = [u0, u1] := rfl
      have cR : cutL [u0, u1, u2, u3] (some (2 : Int)) (some ((2 : Int) + 2)) = [u2, u3] := rfl
      simp only [e1, bind_okS, eqs, hc, em, pgA, pgB, cL, cR, pcs _ (show ([u0, u1] : List Int).length ≤ 10 by simp), pcs _ (show ([u2, u3] : List Int).length ≤ 10 by simp), List.cons_append, List.nil_append]
      by_cases h : w2 = 0
      · rw [decide_eq_true h, if_pos rfl, decide_true, bind_ok, if_pos rfl, bind_ok]
        exact out22 n0 n1 n0 n1
      · rw [decide_eq_false h, if_neg (by decide), bind_ok, if_neg (by decide), bind_ok]
        exact out22 n0 n1 n2' n3
theorem law_true (ns : List Int) (hl : ns.length ≤ 63) : m_law ns = ok true := by
  unfold m_law
  rw [e_cell, e_apart]
  have outer := loopF_nx (ρ := Bool) (f := fun (s2 : Unit) k3 => (M.bind (M.bind (m_cell ns k3) fun u5 => (m__law_drawn u5)) fun poly4 => (M.bind (T.m_apart poly4) fun found6 => (M.bind (M.bind (ok (!(Option.isSome found6))) fun z9 => if z9 = true then ok true else (M.bind (M.bind (unO found6) fun u7 => ok 2) fun u8 => ok ((!decide (u8 = 2))))) fun z10 => if z10 = true then M.bind (ok false) fun a20 => ok (Fl.rt a20) else (M.bind (M.bind (M.bind (M.bind (M.bind (unO found6) fun u11 => ok u11.1) fun u13 => M.bind (M.bind (unO found6) fun u12 => ok u12.2) fun u14 => (m__law_pair u13 u14 poly4)) fun u15 => ok (!u15)) fun z17 => if z17 = true then ok true else (M.bind (m__law_refused poly4) fun u16 => ok (!u16))) fun z18 => if z18 = true then (M.bind (ok false) fun a19 => ok (Fl.rt a19)) else ok (Fl.nx ())))))) (rangeL 0 2) (fun k hk => by
    obtain ⟨j, hj⟩ := List.getElem?_of_mem hk
    obtain ⟨rfl, _⟩ := range_get hj
    obtain ⟨x, c⟩ := cell_ok hl (k := (j : Int)) (by omega)
    obtain ⟨f, ef, hg, hF⟩ := drawn_ok x
    rw [c, bind_ok, ef, bind_ok]
    rcases apart_ok hg (check_gd hg) with ⟨e, n⟩ | ⟨g, k', e, _, hp⟩
    · exact absurd hF n
    · have er := refused_ok hg e hp
      have el := law_pair_ok hp (by have := hg.len; omega)
      simp only [e, bind_okS, Option.isSome_some, Bool.not_true, Bool.false_eq_true, if_false, unO_some, decide_true, el, er])
  rw [bind_ok, outer, T.sq_nx]
end K11Law

namespace K11Law
open PySem PySem.Spec PyProof.Rows L2 T
theorem facts_mk {K : Fr} {mg : Str → Option Value} {h : Heap} (X : K.In h) (G : h.Ns mainGlobals mg)
    {f0 : Addr} {oc0 kV0 doc0 pm0 cdv0 ct0 : Value} {od0 an0 : Option Addr} {sl0 : Array (Option Value)} (a0 : PySem.W.nsIn K mainGlobals "cut" = some (some (.ref f0))) (l0 : K.lookup f0 = some ⟨oc0, od0, .func (PySem.W.fnOf "cut" "cut" (defArgs s_cut) (defBody s_cut) (defScope s_cut) .none kV0 doc0 pm0 an0 cdv0 ct0), sl0⟩) (c0 : PySem.W.codeIn K cdv0 "cut" = true) (k0 : PySem.W.keepIn K (.ref f0) = true)
    {f1 : Addr} {oc1 kV1 doc1 pm1 cdv1 ct1 : Value} {od1 an1 : Option Addr} {sl1 : Array (Option Value)} (a1 : PySem.W.nsIn K mainGlobals "poly_parted" = some (some (.ref f1))) (l1 : K.lookup f1 = some ⟨oc1, od1, .func (PySem.W.fnOf "poly_parted" "poly_parted" (defArgs s_poly_parted) (defBody s_poly_parted) (defScope s_poly_parted) .none kV1 doc1 pm1 an1 cdv1 ct1), sl1⟩) (c1 : PySem.W.codeIn K cdv1 "poly_parted" = true) (k1 : PySem.W.keepIn K (.ref f1) = true)
    {f2 : Addr} {oc2 kV2 doc2 pm2 cdv2 ct2 : Value} {od2 an2 : Option Addr} {sl2 : Array (Option Value)} (a2 : PySem.W.nsIn K mainGlobals "poly_at" = some (some (.ref f2))) (l2 : K.lookup f2 = some ⟨oc2, od2, .func (PySem.W.fnOf "poly_at" "poly_at" (defArgs s_poly_at) (defBody s_poly_at) (defScope s_poly_at) .none kV2 doc2 pm2 an2 cdv2 ct2), sl2⟩) (c2 : PySem.W.codeIn K cdv2 "poly_at" = true) (k2 : PySem.W.keepIn K (.ref f2) = true)
    {f3 : Addr} {oc3 kV3 doc3 pm3 cdv3 ct3 : Value} {od3 an3 : Option Addr} {sl3 : Array (Option Value)} (a3 : PySem.W.nsIn K mainGlobals "root" = some (some (.ref f3))) (l3 : K.lookup f3 = some ⟨oc3, od3, .func (PySem.W.fnOf "root" "root" (defArgs s_root) (defBody s_root) (defScope s_root) .none kV3 doc3 pm3 an3 cdv3 ct3), sl3⟩) (c3 : PySem.W.codeIn K cdv3 "root" = true) (k3 : PySem.W.keepIn K (.ref f3) = true)
    {f4 : Addr} {oc4 kV4 doc4 pm4 cdv4 ct4 : Value} {od4 an4 : Option Addr} {sl4 : Array (Option Value)} (a4 : PySem.W.nsIn K mainGlobals "small_primes" = some (some (.ref f4))) (l4 : K.lookup f4 = some ⟨oc4, od4, .func (PySem.W.fnOf "small_primes" "small_primes" (defArgs s_small_primes) (defBody s_small_primes) (defScope s_small_primes) .none kV4 doc4 pm4 an4 cdv4 ct4), sl4⟩) (c4 : PySem.W.codeIn K cdv4 "small_primes" = true) (k4 : PySem.W.keepIn K (.ref f4) = true)
    {f5 : Addr} {oc5 kV5 doc5 pm5 cdv5 ct5 : Value} {od5 an5 : Option Addr} {sl5 : Array (Option Value)} (a5 : PySem.W.nsIn K mainGlobals "turned" = some (some (.ref f5))) (l5 : K.lookup f5 = some ⟨oc5, od5, .func (PySem.W.fnOf "turned" "turned" (defArgs s_turned) (defBody s_turned) (defScope s_turned) .none kV5 doc5 pm5 an5 cdv5 ct5), sl5⟩) (c5 : PySem.W.codeIn K cdv5 "turned" = true) (k5 : PySem.W.keepIn K (.ref f5) = true)
    {f6 : Addr} {oc6 kV6 doc6 pm6 cdv6 ct6 : Value} {od6 an6 : Option Addr} {sl6 : Array (Option Value)} (a6 : PySem.W.nsIn K mainGlobals "check_poly" = some (some (.ref f6))) (l6 : K.lookup f6 = some ⟨oc6, od6, .func (PySem.W.fnOf "check_poly" "check_poly" (defArgs s_check_poly) (defBody s_check_poly) (defScope s_check_poly) .none kV6 doc6 pm6 an6 cdv6 ct6), sl6⟩) (c6 : PySem.W.codeIn K cdv6 "check_poly" = true) (k6 : PySem.W.keepIn K (.ref f6) = true)
    {f7 : Addr} {oc7 kV7 doc7 pm7 cdv7 ct7 : Value} {od7 an7 : Option Addr} {sl7 : Array (Option Value)} (a7 : PySem.W.nsIn K mainGlobals "whole_root" = some (some (.ref f7))) (l7 : K.lookup f7 = some ⟨oc7, od7, .func (PySem.W.fnOf "whole_root" "whole_root" (defArgs s_whole_root) (defBody s_whole_root) (defScope s_whole_root) .none kV7 doc7 pm7 an7 cdv7 ct7), sl7⟩) (c7 : PySem.W.codeIn K cdv7 "whole_root" = true) (k7 : PySem.W.keepIn K (.ref f7) = true)
    {f8 : Addr} {oc8 kV8 doc8 pm8 cdv8 ct8 : Value} {od8 an8 : Option Addr} {sl8 : Array (Option Value)} (a8 : PySem.W.nsIn K mainGlobals "pair_by" = some (some (.ref f8))) (l8 : K.lookup f8 = some ⟨oc8, od8, .func (PySem.W.fnOf "pair_by" "pair_by" (defArgs s_pair_by) (defBody s_pair_by) (defScope s_pair_by) .none kV8 doc8 pm8 an8 cdv8 ct8), sl8⟩) (c8 : PySem.W.codeIn K cdv8 "pair_by" = true) (k8 : PySem.W.keepIn K (.ref f8) = true)
    {f9 : Addr} {oc9 kV9 doc9 pm9 cdv9 ct9 : Value} {od9 an9 : Option Addr} {sl9 : Array (Option Value)} (a9 : PySem.W.nsIn K mainGlobals "apart" = some (some (.ref f9))) (l9 : K.lookup f9 = some ⟨oc9, od9, .func (PySem.W.fnOf "apart" "apart" (defArgs s_apart) (defBody s_apart) (defScope s_apart) .none kV9 doc9 pm9 an9 cdv9 ct9), sl9⟩) (c9 : PySem.W.codeIn K cdv9 "apart" = true) (k9 : PySem.W.keepIn K (.ref f9) = true)
    {f10 : Addr} {oc10 kV10 doc10 pm10 cdv10 ct10 : Value} {od10 an10 : Option Addr} {sl10 : Array (Option Value)} (a10 : PySem.W.nsIn K mainGlobals "det" = some (some (.ref f10))) (l10 : K.lookup f10 = some ⟨oc10, od10, .func (PySem.W.fnOf "det" "det" (defArgs s_det) (defBody s_det) (defScope s_det) .none kV10 doc10 pm10 an10 cdv10 ct10), sl10⟩) (c10 : PySem.W.codeIn K cdv10 "det" = true) (k10 : PySem.W.keepIn K (.ref f10) = true)
    {f11 : Addr} {oc11 kV11 doc11 pm11 cdv11 ct11 : Value} {od11 an11 : Option Addr} {sl11 : Array (Option Value)} (a11 : PySem.W.nsIn K mainGlobals "power_sums" = some (some (.ref f11))) (l11 : K.lookup f11 = some ⟨oc11, od11, .func (PySem.W.fnOf "power_sums" "power_sums" (defArgs s_power_sums) (defBody s_power_sums) (defScope s_power_sums) .none kV11 doc11 pm11 an11 cdv11 ct11), sl11⟩) (c11 : PySem.W.codeIn K cdv11 "power_sums" = true) (k11 : PySem.W.keepIn K (.ref f11) = true)
    {f12 : Addr} {oc12 kV12 doc12 pm12 cdv12 ct12 : Value} {od12 an12 : Option Addr} {sl12 : Array (Option Value)} (a12 : PySem.W.nsIn K mainGlobals "measure" = some (some (.ref f12))) (l12 : K.lookup f12 = some ⟨oc12, od12, .func (PySem.W.fnOf "measure" "measure" (defArgs s_measure) (defBody s_measure) (defScope s_measure) .none kV12 doc12 pm12 an12 cdv12 ct12), sl12⟩) (c12 : PySem.W.codeIn K cdv12 "measure" = true) (k12 : PySem.W.keepIn K (.ref f12) = true)
    {f13 : Addr} {oc13 kV13 doc13 pm13 cdv13 ct13 : Value} {od13 an13 : Option Addr} {sl13 : Array (Option Value)} (a13 : PySem.W.nsIn K mainGlobals "mod_poly" = some (some (.ref f13))) (l13 : K.lookup f13 = some ⟨oc13, od13, .func (PySem.W.fnOf "mod_poly" "mod_poly" (defArgs s_mod_poly) (defBody s_mod_poly) (defScope s_mod_poly) .none kV13 doc13 pm13 an13 cdv13 ct13), sl13⟩) (c13 : PySem.W.codeIn K cdv13 "mod_poly" = true) (k13 : PySem.W.keepIn K (.ref f13) = true)
    {f14 : Addr} {oc14 kV14 doc14 pm14 cdv14 ct14 : Value} {od14 an14 : Option Addr} {sl14 : Array (Option Value)} (a14 : PySem.W.nsIn K mainGlobals "mod_parted" = some (some (.ref f14))) (l14 : K.lookup f14 = some ⟨oc14, od14, .func (PySem.W.fnOf "mod_parted" "mod_parted" (defArgs s_mod_parted) (defBody s_mod_parted) (defScope s_mod_parted) .none kV14 doc14 pm14 an14 cdv14 ct14), sl14⟩) (c14 : PySem.W.codeIn K cdv14 "mod_parted" = true) (k14 : PySem.W.keepIn K (.ref f14) = true)
    {f15 : Addr} {oc15 kV15 doc15 pm15 cdv15 ct15 : Value} {od15 an15 : Option Addr} {sl15 : Array (Option Value)} (a15 : PySem.W.nsIn K mainGlobals "mod_at" = some (some (.ref f15))) (l15 : K.lookup f15 = some ⟨oc15, od15, .func (PySem.W.fnOf "mod_at" "mod_at" (defArgs s_mod_at) (defBody s_mod_at) (defScope s_mod_at) .none kV15 doc15 pm15 an15 cdv15 ct15), sl15⟩) (c15 : PySem.W.codeIn K cdv15 "mod_at" = true) (k15 : PySem.W.keepIn K (.ref f15) = true)
    {f16 : Addr} {oc16 kV16 doc16 pm16 cdv16 ct16 : Value} {od16 an16 : Option Addr} {sl16 : Array (Option Value)} (a16 : PySem.W.nsIn K mainGlobals "pair_of" = some (some (.ref f16))) (l16 : K.lookup f16 = some ⟨oc16, od16, .func (PySem.W.fnOf "pair_of" "pair_of" (defArgs s_pair_of) (defBody s_pair_of) (defScope s_pair_of) .none kV16 doc16 pm16 an16 cdv16 ct16), sl16⟩) (c16 : PySem.W.codeIn K cdv16 "pair_of" = true) (k16 : PySem.W.keepIn K (.ref f16) = true)
    {f17 : Addr} {oc17 kV17 doc17 pm17 cdv17 ct17 : Value} {od17 an17 : Option Addr} {sl17 : Array (Option Value)} (a17 : PySem.W.nsIn K mainGlobals "rootless" = some (some (.ref f17))) (l17 : K.lookup f17 = some ⟨oc17, od17, .func (PySem.W.fnOf "rootless" "rootless" (defArgs s_rootless) (defBody s_rootless) (defScope s_rootless) .none kV17 doc17 pm17 an17 cdv17 ct17), sl17⟩) (c17 : PySem.W.codeIn K cdv17 "rootless" = true) (k17 : PySem.W.keepIn K (.ref f17) = true)
    {f18 : Addr} {oc18 kV18 doc18 pm18 cdv18 ct18 : Value} {od18 an18 : Option Addr} {sl18 : Array (Option Value)} (a18 : PySem.W.nsIn K mainGlobals "split_by" = some (some (.ref f18))) (l18 : K.lookup f18 = some ⟨oc18, od18, .func (PySem.W.fnOf "split_by" "split_by" (defArgs s_split_by) (defBody s_split_by) (defScope s_split_by) .none kV18 doc18 pm18 an18 cdv18 ct18), sl18⟩) (c18 : PySem.W.codeIn K cdv18 "split_by" = true) (k18 : PySem.W.keepIn K (.ref f18) = true)
    {f19 : Addr} {oc19 kV19 doc19 pm19 cdv19 ct19 : Value} {od19 an19 : Option Addr} {sl19 : Array (Option Value)} (a19 : PySem.W.nsIn K mainGlobals "square_primes" = some (some (.ref f19))) (l19 : K.lookup f19 = some ⟨oc19, od19, .func (PySem.W.fnOf "square_primes" "square_primes" (defArgs s_square_primes) (defBody s_square_primes) (defScope s_square_primes) .none kV19 doc19 pm19 an19 cdv19 ct19), sl19⟩) (c19 : PySem.W.codeIn K cdv19 "square_primes" = true) (k19 : PySem.W.keepIn K (.ref f19) = true)
    {f20 : Addr} {oc20 kV20 doc20 pm20 cdv20 ct20 : Value} {od20 an20 : Option Addr} {sl20 : Array (Option Value)} (a20 : PySem.W.nsIn K mainGlobals "parts_of" = some (some (.ref f20))) (l20 : K.lookup f20 = some ⟨oc20, od20, .func (PySem.W.fnOf "parts_of" "parts_of" (defArgs s_parts_of) (defBody s_parts_of) (defScope s_parts_of) .none kV20 doc20 pm20 an20 cdv20 ct20), sl20⟩) (c20 : PySem.W.codeIn K cdv20 "parts_of" = true) (k20 : PySem.W.keepIn K (.ref f20) = true)
    {f21 : Addr} {oc21 kV21 doc21 pm21 cdv21 ct21 : Value} {od21 an21 : Option Addr} {sl21 : Array (Option Value)} (a21 : PySem.W.nsIn K mainGlobals "divides_all" = some (some (.ref f21))) (l21 : K.lookup f21 = some ⟨oc21, od21, .func (PySem.W.fnOf "divides_all" "divides_all" (defArgs s_divides_all) (defBody s_divides_all) (defScope s_divides_all) .none kV21 doc21 pm21 an21 cdv21 ct21), sl21⟩) (c21 : PySem.W.codeIn K cdv21 "divides_all" = true) (k21 : PySem.W.keepIn K (.ref f21) = true)
    {f22 : Addr} {oc22 kV22 doc22 pm22 cdv22 ct22 : Value} {od22 an22 : Option Addr} {sl22 : Array (Option Value)} (a22 : PySem.W.nsIn K mainGlobals "outside" = some (some (.ref f22))) (l22 : K.lookup f22 = some ⟨oc22, od22, .func (PySem.W.fnOf "outside" "outside" (defArgs s_outside) (defBody s_outside) (defScope s_outside) .none kV22 doc22 pm22 an22 cdv22 ct22), sl22⟩) (c22 : PySem.W.codeIn K cdv22 "outside" = true) (k22 : PySem.W.keepIn K (.ref f22) = true)
    {f23 : Addr} {oc23 kV23 doc23 pm23 cdv23 ct23 : Value} {od23 an23 : Option Addr} {sl23 : Array (Option Value)} (a23 : PySem.W.nsIn K mainGlobals "_law_cell" = some (some (.ref f23))) (l23 : K.lookup f23 = some ⟨oc23, od23, .func (PySem.W.fnOf "_law_cell" "_law_cell" (defArgs s__law_cell) (defBody s__law_cell) (defScope s__law_cell) .none kV23 doc23 pm23 an23 cdv23 ct23), sl23⟩) (c23 : PySem.W.codeIn K cdv23 "_law_cell" = true) (k23 : PySem.W.keepIn K (.ref f23) = true)
    {f24 : Addr} {oc24 kV24 doc24 pm24 cdv24 ct24 : Value} {od24 an24 : Option Addr} {sl24 : Array (Option Value)} (a24 : PySem.W.nsIn K mainGlobals "_law_mixed" = some (some (.ref f24))) (l24 : K.lookup f24 = some ⟨oc24, od24, .func (PySem.W.fnOf "_law_mixed" "_law_mixed" (defArgs s__law_mixed) (defBody s__law_mixed) (defScope s__law_mixed) .none kV24 doc24 pm24 an24 cdv24 ct24), sl24⟩) (c24 : PySem.W.codeIn K cdv24 "_law_mixed" = true) (k24 : PySem.W.keepIn K (.ref f24) = true)
    {f25 : Addr} {oc25 kV25 doc25 pm25 cdv25 ct25 : Value} {od25 an25 : Option Addr} {sl25 : Array (Option Value)} (a25 : PySem.W.nsIn K mainGlobals "_law_draws" = some (some (.ref f25))) (l25 : K.lookup f25 = some ⟨oc25, od25, .func (PySem.W.fnOf "_law_draws" "_law_draws" (defArgs s__law_draws) (defBody s__law_draws) (defScope s__law_draws) .none kV25 doc25 pm25 an25 cdv25 ct25), sl25⟩) (c25 : PySem.W.codeIn K cdv25 "_law_draws" = true) (k25 : PySem.W.keepIn K (.ref f25) = true)
    {f26 : Addr} {oc26 kV26 doc26 pm26 cdv26 ct26 : Value} {od26 an26 : Option Addr} {sl26 : Array (Option Value)} (a26 : PySem.W.nsIn K mainGlobals "_law_whole" = some (some (.ref f26))) (l26 : K.lookup f26 = some ⟨oc26, od26, .func (PySem.W.fnOf "_law_whole" "_law_whole" (defArgs s__law_whole) (defBody s__law_whole) (defScope s__law_whole) .none kV26 doc26 pm26 an26 cdv26 ct26), sl26⟩) (c26 : PySem.W.codeIn K cdv26 "_law_whole" = true) (k26 : PySem.W.keepIn K (.ref f26) = true)
    {f27 : Addr} {oc27 kV27 doc27 pm27 cdv27 ct27 : Value} {od27 an27 : Option Addr} {sl27 : Array (Option Value)} (a27 : PySem.W.nsIn K mainGlobals "_law_times_out" = some (some (.ref f27))) (l27 : K.lookup f27 = some ⟨oc27, od27, .func (PySem.W.fnOf "_law_times_out" "_law_times_out" (defArgs s__law_times_out) (defBody s__law_times_out) (defScope s__law_times_out) .none kV27 doc27 pm27 an27 cdv27 ct27), sl27⟩) (c27 : PySem.W.codeIn K cdv27 "_law_times_out" = true) (k27 : PySem.W.keepIn K (.ref f27) = true)
    {f28 : Addr} {oc28 kV28 doc28 pm28 cdv28 ct28 : Value} {od28 an28 : Option Addr} {sl28 : Array (Option Value)} (a28 : PySem.W.nsIn K mainGlobals "_law_monic" = some (some (.ref f28))) (l28 : K.lookup f28 = some ⟨oc28, od28, .func (PySem.W.fnOf "_law_monic" "_law_monic" (defArgs s__law_monic) (defBody s__law_monic) (defScope s__law_monic) .none kV28 doc28 pm28 an28 cdv28 ct28), sl28⟩) (c28 : PySem.W.codeIn K cdv28 "_law_monic" = true) (k28 : PySem.W.keepIn K (.ref f28) = true)
    {f29 : Addr} {oc29 kV29 doc29 pm29 cdv29 ct29 : Value} {od29 an29 : Option Addr} {sl29 : Array (Option Value)} (a29 : PySem.W.nsIn K mainGlobals "_law_pair" = some (some (.ref f29))) (l29 : K.lookup f29 = some ⟨oc29, od29, .func (PySem.W.fnOf "_law_pair" "_law_pair" (defArgs s__law_pair) (defBody s__law_pair) (defScope s__law_pair) .none kV29 doc29 pm29 an29 cdv29 ct29), sl29⟩) (c29 : PySem.W.codeIn K cdv29 "_law_pair" = true) (k29 : PySem.W.keepIn K (.ref f29) = true)
    {f30 : Addr} {oc30 kV30 doc30 pm30 cdv30 ct30 : Value} {od30 an30 : Option Addr} {sl30 : Array (Option Value)} (a30 : PySem.W.nsIn K mainGlobals "_law_drawn" = some (some (.ref f30))) (l30 : K.lookup f30 = some ⟨oc30, od30, .func (PySem.W.fnOf "_law_drawn" "_law_drawn" (defArgs s__law_drawn) (defBody s__law_drawn) (defScope s__law_drawn) .none kV30 doc30 pm30 an30 cdv30 ct30), sl30⟩) (c30 : PySem.W.codeIn K cdv30 "_law_drawn" = true) (k30 : PySem.W.keepIn K (.ref f30) = true)
    {f31 : Addr} {oc31 kV31 doc31 pm31 cdv31 ct31 : Value} {od31 an31 : Option Addr} {sl31 : Array (Option Value)} (a31 : PySem.W.nsIn K mainGlobals "_law_refused" = some (some (.ref f31))) (l31 : K.lookup f31 = some ⟨oc31, od31, .func (PySem.W.fnOf "_law_refused" "_law_refused" (defArgs s__law_refused) (defBody s__law_refused) (defScope s__law_refused) .none kV31 doc31 pm31 an31 cdv31 ct31), sl31⟩) (c31 : PySem.W.codeIn K cdv31 "_law_refused" = true) (k31 : PySem.W.keepIn K (.ref f31) = true)
    {f32 : Addr} {oc32 kV32 doc32 pm32 cdv32 ct32 : Value} {od32 an32 : Option Addr} {sl32 : Array (Option Value)} (a32 : PySem.W.nsIn K mainGlobals "law" = some (some (.ref f32))) (l32 : K.lookup f32 = some ⟨oc32, od32, .func (PySem.W.fnOf "law" "law" (defArgs s_law) (defBody s_law) (defScope s_law) .none kV32 doc32 pm32 an32 cdv32 ct32), sl32⟩) (c32 : PySem.W.codeIn K cdv32 "law" = true) (k32 : PySem.W.keepIn K (.ref f32) = true)
    {C0 : Addr} (ca0 : PySem.W.nsIn K mainGlobals "FallsApart" = some (some (.ref C0)))
    (cb0 : PySem.W.subIn K (.ref C0) (.type "BaseException") = some true) (cy0 : PySem.W.typeIn K (.ref C0) = some (.type "type")) (ck0 : PySem.W.keepIn K (.ref C0) = true)
    (cd0 : PySem.W.hasDictIn K C0 = true)
    {xm0 xq0 : Str} {xN0 : Addr} {xbs0 xbm0 : List Value} {xsn0 : List Str} {xsu0 : List Value} {xab0 : Bool} {xco0 : Option Bool} {xdd0 : Option Addr} {xk0a xk0b xk0c xk0d xk0e : Option Value} {fi0 : Addr} {foc0 fkV0 fdoc0 fpm0 fcdv0 fct0 : Value} {fod0 fan0 : Option Addr} {fsl0 : Array (Option Value)}
    (xl0 : K.lookup C0 = some (excClassObj xm0 xq0 C0 xN0 xbs0 xbm0 true xsn0 xsu0 xab0 xco0 xdd0 xk0a xk0b xk0c xk0d xk0e "ValueError.__new__")) (xv0 : PySem.HandSPX.refsVE xbm0 = true)
    (xs0 : PySem.W.findIn K (.ref C0) "__setattr__" = some (some (.builtin "object.__setattr__"))) (ii0 : PySem.W.findIn K (.ref C0) "__init__" = some (some (.ref fi0))) (it0 : PySem.W.typeIn K (.ref fi0) = some (.type "function")) (il0 : K.lookup fi0 = some ⟨foc0, fod0, .func (PySem.W.fnOf "__init__" "FallsApart.__init__" (defArgs s_FallsApart) (defBody s_FallsApart) (defScope s_FallsApart) .none fkV0 fdoc0 fpm0 fan0 fcdv0 fct0), fsl0⟩) (ic0 : PySem.W.codeIn K fcdv0 "FallsApart.__init__" = true) (ik0 : PySem.W.keepIn K (.ref fi0) = true)
    (no0_0 : PySem.W.findIn K (.ref C0) "left" = some none)
    (no0_1 : PySem.W.findIn K (.ref C0) "right" = some none)
    {C1 : Addr} (ca1 : PySem.W.nsIn K mainGlobals "NoPolynomial" = some (some (.ref C1)))
    (cb1 : PySem.W.subIn K (.ref C1) (.type "BaseException") = some true) (cy1 : PySem.W.typeIn K (.ref C1) = some (.type "type")) (ck1 : PySem.W.keepIn K (.ref C1) = true)
    (cx1 : PySem.W.excIn K C1 [.type "ValueError", .type "Exception", .type "BaseException", .type "object"] "ValueError.__new__" = true)
    {C2 : Addr} (ca2 : PySem.W.nsIn K mainGlobals "NoPrime" = some (some (.ref C2)))
    (cb2 : PySem.W.subIn K (.ref C2) (.type "BaseException") = some true) (cy2 : PySem.W.typeIn K (.ref C2) = some (.type "type")) (ck2 : PySem.W.keepIn K (.ref C2) = true)
    (cx2 : PySem.W.excIn K C2 [.type "ValueError", .type "Exception", .type "BaseException", .type "object"] "ValueError.__new__" = true)
    {C3 : Addr} (ca3 : PySem.W.nsIn K mainGlobals "NotWhole" = some (some (.ref C3)))
    (cb3 : PySem.W.subIn K (.ref C3) (.type "BaseException") = some true) (cy3 : PySem.W.typeIn K (.ref C3) = some (.type "type")) (ck3 : PySem.W.keepIn K (.ref C3) = true)
    {xm3 xq3 : Str} {xN3 : Addr} {xbs3 xbm3 : List Value} {xsn3 : List Str} {xsu3 : List Value} {xab3 : Bool} {xco3 : Option Bool} {xdd3 : Option Addr} {xk3a xk3b xk3c xk3d xk3e : Option Value} {fi3 : Addr} {foc3 fkV3 fdoc3 fpm3 fcdv3 fct3 : Value} {fod3 fan3 : Option Addr} {fsl3 : Array (Option Value)}
    (xl3 : K.lookup C3 = some (excClassObj xm3 xq3 C3 xN3 xbs3 xbm3 true xsn3 xsu3 xab3 xco3 xdd3 xk3a xk3b xk3c xk3d xk3e "ValueError.__new__")) (xv3 : PySem.HandSPX.refsVE xbm3 = true)
    (xs3 : PySem.W.findIn K (.ref C3) "__setattr__" = some (some (.builtin "object.__setattr__"))) (ii3 : PySem.W.findIn K (.ref C3) "__init__" = some (some (.ref fi3))) (it3 : PySem.W.typeIn K (.ref fi3) = some (.type "function")) (il3 : K.lookup fi3 = some ⟨foc3, fod3, .func (PySem.W.fnOf "__init__" "NotWhole.__init__" (defArgs s_NotWhole) (defBody s_NotWhole) (defScope s_NotWhole) .none fkV3 fdoc3 fpm3 fan3 fcdv3 fct3), fsl3⟩) (ic3 : PySem.W.codeIn K fcdv3 "NotWhole.__init__" = true) (ik3 : PySem.W.keepIn K (.ref fi3) = true)
    (no3_0 : PySem.W.findIn K (.ref C3) "prime" = some none)
    (no3_1 : PySem.W.findIn K (.ref C3) "number" = some none)
    {C4 : Addr} (ca4 : PySem.W.nsIn K mainGlobals "Ring" = some (some (.ref C4)))
    {fi4 : Addr} {foc4 fkV4 fdoc4 fpm4 fcdv4 fct4 : Value} {fod4 fan4 : Option Addr} {fsl4 : Array (Option Value)} (cm4 : PySem.W.makesIn K C4 = true) (ck4 : PySem.W.keepIn K (.ref C4) = true) (cp4 : PySem.W.plainGet K C4 Str.empty = true) (cd4 : PySem.W.hasDictIn K C4 = true) (co4 : PySem.W.plainOver K C4 = true)
    (xs4 : PySem.W.findIn K (.ref C4) "__setattr__" = some (some (.builtin "object.__setattr__"))) (ii4 : PySem.W.findIn K (.ref C4) "__init__" = some (some (.ref fi4))) (if4 : PySem.W.isFn K (.ref fi4) = true) (il4 : K.lookup fi4 = some ⟨foc4, fod4, .func (PySem.W.fnOf "__init__" "Ring.__init__" (defArgs s_Ring) (defBody s_Ring) (defScope s_Ring) .none fkV4 fdoc4 fpm4 fan4 fcdv4 fct4), fsl4⟩) (ic4 : PySem.W.codeIn K fcdv4 "Ring.__init__" = true) (ik4 : PySem.W.keepIn K (.ref fi4) = true)
    (no4_0 : PySem.W.findIn K (.ref C4) "poly" = some none)
    (no4_1 : PySem.W.findIn K (.ref C4) "degree" = some none)
    (no4_2 : PySem.W.findIn K (.ref C4) "measure" = some none)
    {C5 : Addr} (ca5 : PySem.W.nsIn K mainGlobals "RingError" = some (some (.ref C5)))
    (cb5 : PySem.W.subIn K (.ref C5) (.type "BaseException") = some true) (cy5 : PySem.W.typeIn K (.ref C5) = some (.type "type")) (ck5 : PySem.W.keepIn K (.ref C5) = true)
    (cd5 : PySem.W.hasDictIn K C5 = true)
    {C6 : Addr} (ca6 : PySem.W.nsIn K mainGlobals "TooGreat" = some (some (.ref C6)))
    (cb6 : PySem.W.subIn K (.ref C6) (.type "BaseException") = some true) (cy6 : PySem.W.typeIn K (.ref C6) = some (.type "type")) (ck6 : PySem.W.keepIn K (.ref C6) = true)
    (cx6 : PySem.W.excIn K C6 [.type "ValueError", .type "Exception", .type "BaseException", .type "object"] "ValueError.__new__" = true)
    (su5_0 : PySem.W.subIn K (.ref C5) (.ref C0) = some false)
    (su1_0 : PySem.W.subIn K (.ref C1) (.ref C0) = some false)
    (su6_0 : PySem.W.subIn K (.ref C6) (.ref C0) = some false)
    (su2_0 : PySem.W.subIn K (.ref C2) (.ref C0) = some false)
    (su0_0 : PySem.W.subIn K (.ref C0) (.ref C0) = some true)
    (su3_0 : PySem.W.subIn K (.ref C3) (.ref C0) = some false)
    (su5_5 : PySem.W.subIn K (.ref C5) (.ref C5) = some true)
    (su1_5 : PySem.W.subIn K (.ref C1) (.ref C5) = some true)
    (su6_5 : PySem.W.subIn K (.ref C6) (.ref C5) = some true)
    (su2_5 : PySem.W.subIn K (.ref C2) (.ref C5) = some true)
    (su0_5 : PySem.W.subIn K (.ref C0) (.ref C5) = some true)
    (su3_5 : PySem.W.subIn K (.ref C3) (.ref C5) = some true)
    (ec0 : ExcC K C0)
    (ki0_NoPolynomial : PySem.W.kitOne K (.ref C0) (.ref C1) = some false)
    (ki0_NotWhole : PySem.W.kitOne K (.ref C0) (.ref C3) = some false)
    (ki0_RingError : PySem.W.kitOne K (.ref C0) (.ref C5) = some true)
    (ki0_TooGreat : PySem.W.kitOne K (.ref C0) (.ref C6) = some false)
    (ki0_ValueError : PySem.W.kitOne K (.ref C0) (.type "ValueError") = some true)
    (zVE : PySem.W.nsIn K mainGlobals "ValueError" = some none)
    (z0 : PySem.W.nsIn K mainGlobals "abs" = some none)
    (z1 : PySem.W.nsIn K mainGlobals "all" = some none)
    (z2 : PySem.W.nsIn K mainGlobals "bool" = some none)
    (z3 : PySem.W.nsIn K mainGlobals "int" = some none)
    (z4 : PySem.W.nsIn K mainGlobals "isinstance" = some none)
    (z5 : PySem.W.nsIn K mainGlobals "len" = some none)
    (z6 : PySem.W.nsIn K mainGlobals "list" = some none)
    (z7 : PySem.W.nsIn K mainGlobals "min" = some none)
    (z8 : PySem.W.nsIn K mainGlobals "range" = some none)
    (z9 : PySem.W.nsIn K mainGlobals "reversed" = some none)
    (z10 : PySem.W.nsIn K mainGlobals "sorted" = some none)
    (z11 : PySem.W.nsIn K mainGlobals "tuple" = some none)
    {cA0 : Addr} {cod0 : Option Addr} {cits0 : Array Value} {cn0 : Nat} {csl0 : Array (Option Value)} (q0 : PySem.W.nsIn K mainGlobals "PRIMES" = some (some (.ref cA0))) (ql0 : K.lookup cA0 = some ⟨.type "tuple", cod0, .seq cits0 cn0, csl0⟩) (qi0 : isIntsB cits0.toList c_PRIMES = true)
    {ct1 : Tok} (q1 : PySem.W.nsIn K mainGlobals "LARGEST" = some (some (.int c_LARGEST ct1)))
    {ct2 : Tok} (q2 : PySem.W.nsIn K mainGlobals "GREATEST" = some (some (.int c_GREATEST ct2)))
    : Facts K mg where
  d_cut := defAt_mk X G a0 l0 c0 k0
  d_poly_parted := defAt_mk X G a1 l1 c1 k1
  d_poly_at := defAt_mk X G a2 l2 c2 k2
  d_root := defAt_mk X G a3 l3 c3 k3
  d_small_primes := defAt_mk X G a4 l4 c4 k4
  d_turned := defAt_mk X G a5 l5 c5 k5
  d_check_poly := defAt_mk X G a6 l6 c6 k6
  d_whole_root := defAt_mk X G a7 l7 c7 k7
  d_pair_by := defAt_mk X G a8 l8 c8 k8
  d_apart := defAt_mk X G a9 l9 c9 k9
  d_det := defAt_mk X G a10 l10 c10 k10
  d_power_sums := defAt_mk X G a11 l11 c11 k11
  d_measure := defAt_mk X G a12 l12 c12 k12
  d_mod_poly := defAt_mk X G a13 l13 c13 k13
  d_mod_parted := defAt_mk X G a14 l14 c14 k14
  d_mod_at := defAt_mk X G a15 l15 c15 k15
  d_pair_of := defAt_mk X G a16 l16 c16 k16
  d_rootless := defAt_mk X G a17 l17 c17 k17
  d_split_by := defAt_mk X G a18 l18 c18 k18
  d_square_primes := defAt_mk X G a19 l19 c19 k19
  d_parts_of := defAt_mk X G a20 l20 c20 k20
  d_divides_all := defAt_mk X G a21 l21 c21 k21
  d_outside := defAt_mk X G a22 l22 c22 k22
  d__law_cell := defAt_mk X G a23 l23 c23 k23
  d__law_mixed := defAt_mk X G a24 l24 c24 k24
  d__law_draws := defAt_mk X G a25 l25 c25 k25
  d__law_whole := defAt_mk X G a26 l26 c26 k26
  d__law_times_out := defAt_mk X G a27 l27 c27 k27
  d__law_monic := defAt_mk X G a28 l28 c28 k28
  d__law_pair := defAt_mk X G a29 l29 c29 k29
  d__law_drawn := defAt_mk X G a30 l30 c30 k30
  d__law_refused := defAt_mk X G a31 l31 c31 k31
  d_law := defAt_mk X G a32 l32 c32 k32
  i_FallsApart := xiAt_mk X G ca0 xl0 xv0 xs0 cb0 cy0 ck0 ii0 it0 il0 ic0 ik0 (all_cons no0_0 (all_cons no0_1 all_nil))
  x_NoPolynomial := xpl_mk X G ca1 cx1 ck1 cb1 cy1
  x_NoPrime := xpl_mk X G ca2 cx2 ck2 cb2 cy2
  i_NotWhole := xiAt_mk X G ca3 xl3 xv3 xs3 cb3 cy3 ck3 ii3 it3 il3 ic3 ik3 (all_cons no3_0 (all_cons no3_1 all_nil))
  c_Ring := clsAt_mk X G ca4 cm4 ck4 cp4 cd4 co4 xs4 ii4 if4 il4 ic4 ik4 (all_cons no4_0 (all_cons no4_1 (all_cons no4_2 all_nil)))
  x_TooGreat := xpl_mk X G ca6 cx6 ck6 cb6 cy6
  sub_FallsApart := xsub_mk X G ca0 cb0 cd0 cy0 (all_cons (sub_row X G ca5 su5_0) (all_cons (sub_row X G ca1 su1_0) (all_cons (sub_row X G ca6 su6_0) (all_cons (sub_row X G ca2 su2_0) (all_cons (sub_row X G ca0 su0_0) (all_cons (sub_row X G ca3 su3_0) all_nil))))))
  sub_RingError := xsub_mk X G ca5 cb5 cd5 cy5 (all_cons (sub_row X G ca5 su5_5) (all_cons (sub_row X G ca1 su1_5) (all_cons (sub_row X G ca6 su6_5) (all_cons (sub_row X G ca2 su2_5) (all_cons (sub_row X G ca0 su0_5) (all_cons (sub_row X G ca3 su3_5) all_nil))))))
  fld_left := xfld_mk (all_cons (fld_at X G ca0 ec0 no0_0) all_nil)
  fld_right := xfld_mk (all_cons (fld_at X G ca0 ec0 no0_1) all_nil)
  isi_NoPolynomial := xisi_own X G ca1 (all_cons (isi_row X G ca0 ec0 ki0_NoPolynomial) all_nil)
  isi_NotWhole := xisi_own X G ca3 (all_cons (isi_row X G ca0 ec0 ki0_NotWhole) all_nil)
  isi_RingError := xisi_own X G ca5 (all_cons (isi_row X G ca0 ec0 ki0_RingError) all_nil)
  isi_TooGreat := xisi_own X G ca6 (all_cons (isi_row X G ca0 ec0 ki0_TooGreat) all_nil)
  isi_ValueError := xisi_blt (PySem.W.mg_none_of X G zVE) (by decide) (by decide +kernel) (all_cons (isi_row X G ca0 ec0 ki0_ValueError) all_nil)
  n_abs := PySem.W.mg_none_of X G z0
  n_all := PySem.W.mg_none_of X G z1
  n_bool := PySem.W.mg_none_of X G z2
  n_int := PySem.W.mg_none_of X G z3
  n_isinstance := PySem.W.mg_none_of X G z4
  n_len := PySem.W.mg_none_of X G z5
  n_list := PySem.W.mg_none_of X G z6
  n_min := PySem.W.mg_none_of X G z7
  n_range := PySem.W.mg_none_of X G z8
  n_reversed := PySem.W.mg_none_of X G z9
  n_sorted := PySem.W.mg_none_of X G z10
  n_tuple := PySem.W.mg_none_of X G z11
  g_PRIMES := globD_ints X G q0 ql0 qi0
  g_LARGEST := globD_int X G q1
  g_GREATEST := globD_int X G q2
theorem law_mk {l : PySem.W.OpenLaw} {w : World} {K : Fr} {mg : Str → Option Value} {fa : Addr} (T : Facts K mg) (hfa : mg "law" = some (.ref fa)) (hm : ∀ ns : List Int, ns.length ≤ 63 → m_law ns = ok true) :
    ∃ fd : FuncData, (∀ (s : Shared) (u : Value), BindsTo s fd ⟨[u], []⟩ [("_law_script", u)]) ∧ ∀ base : Heap, K.In base → base.Ns mainGlobals mg → FnOk l.prog w K mg base (L2.CX l.prog w) 12 fa fd ["_law_script"] (spLaw K) :=
  law_fd T.d_law hfa (fun _ _ _ _ _ _ s v => .of_eq rfl) hm fun base f fd F => ok_law T F
end K11Law
open PySem PySem.W PyProof.Rows
set_option maxRecDepth 100000 in
set_option maxHeartbeats 0 in
theorem PySem.Challenge.cw_ringhouse_k11_apart_told_holds : PySem.Challenge.rw_ringhouse_k11_apart_told.Holds := by
  w_on; o_law; k_head; (case hw => w_witness2)
  k_fill
  refine L2.walk_of (l := PySem.Challenge.rw_ringhouse_k11_apart_told) (n := 63) (k := 12) (x := "_law_script") (CX := fun w => L2.CX (PySem.Challenge.rw_ringhouse_k11_apart_told).prog w) (sp := fun w => T.spLaw _) rfl (by decide) rfl ⟨rfl, by decide, by decide⟩ (fun w h Y => PySem.W.kIn_of Y) ?F (fun _ _ a ns hl _ hS => ⟨a, ns, rfl, hS, hl, fun _ => rfl⟩) (fun _ => T.cx_no)
  case F =>
    intro w mg fa h KX G hmg
    refine' K11Law.law_mk (K11Law.facts_mk KX G ?a0 ?l0 ?c0 ?k0 ?a1 ?l1 ?c1 ?k1 ?a2 ?l2 ?c2 ?k2 ?a3 ?l3 ?c3 ?k3 ?a4 ?l4 ?c4 ?k4 ?a5 ?l5 ?c5 ?k5 ?a6 ?l6 ?c6 ?k6 ?a7 ?l7 ?c7 ?k7 ?a8 ?l8 ?c8 ?k8 ?a9 ?l9 ?c9 ?k9 ?a10 ?l10 ?c10 ?k10 ?a11 ?l11 ?c11 ?k11 ?a12 ?l12 ?c12 ?k12 ?a13 ?l13 ?c13 ?k13 ?a14 ?l14 ?c14 ?k14 ?a15 ?l15 ?c15 ?k15 ?a16 ?l16 ?c16 ?k16 ?a17 ?l17 ?c17 ?k17 ?a18 ?l18 ?c18 ?k18 ?a19 ?l19 ?c19 ?k19 ?a20 ?l20 ?c20 ?k20 ?a21 ?l21 ?c21 ?k21 ?a22 ?l22 ?c22 ?k22 ?a23 ?l23 ?c23 ?k23 ?a24 ?l24 ?c24 ?k24 ?a25 ?l25 ?c25 ?k25 ?a26 ?l26 ?c26 ?k26 ?a27 ?l27 ?c27 ?k27 ?a28 ?l28 ?c28 ?k28 ?a29 ?l29 ?c29 ?k29 ?a30 ?l30 ?c30 ?k30 ?a31 ?l31 ?c31 ?k31 ?a32 ?l32 ?c32 ?k32 ?ca0 ?cb0 ?cy0 ?ck0 ?cd0 ?xl0 ?xv0 ?xs0 ?ii0 ?it0 ?il0 ?ic0 ?ik0 ?no0_0 ?no0_1 ?ca1 ?cb1 ?cy1 ?ck1 ?cx1 ?ca2 ?cb2 ?cy2 ?ck2 ?cx2 ?ca3 ?cb3 ?cy3 ?ck3 ?xl3 ?xv3 ?xs3 ?ii3 ?it3 ?il3 ?ic3 ?ik3 ?no3_0 ?no3_1 ?ca4 ?cm4 ?ck4 ?cp4 ?cd4 ?co4 ?xs4 ?ii4 ?if4 ?il4 ?ic4 ?ik4 ?no4_0 ?no4_1 ?no4_2 ?ca5 ?cb5 ?cy5 ?ck5 ?cd5 ?ca6 ?cb6 ?cy6 ?ck6 ?cx6 ?su5_0 ?su1_0 ?su6_0 ?su2_0 ?su0_0 ?su3_0 ?su5_5 ?su1_5 ?su6_5 ?su2_5 ?su0_5 ?su3_5 ?ec0 ?ki0_NoPolynomial ?ki0_NotWhole ?ki0_RingError ?ki0_TooGreat ?ki0_ValueError ?zVE ?z0 ?z1 ?z2 ?z3 ?z4 ?z5 ?z6 ?z7 ?z8 ?z9 ?z10 ?z11 ?q0 ?ql0 ?qi0 ?q1 ?q2) hmg K11Law.law_true
    (case a0 => k_is); (case l0 => k_is); (case c0 => k_is); (case k0 => k_is); (case a1 => k_is); (case l1 => k_is); (case c1 => k_is); (case k1 => k_is); (case a2 => k_is); (case l2 => k_is); (case c2 => k_is); (case k2 => k_is); (case a3 => k_is); (case l3 => k_is); (case c3 => k_is); (case k3 => k_is); (case a4 => k_is); (case l4 => k_is); (case c4 => k_is); (case k4 => k_is); (case a5 => k_is); (case l5 => k_is); (case c5 => k_is); (case k5 => k_is); (case a6 => k_is); (case l6 => k_is); (case c6 => k_is); (case k6 => k_is); (case a7 => k_is); (case l7 => k_is); (case c7 => k_is); (case k7 => k_is); (case a8 => k_is); (case l8 => k_is); (case c8 => k_is); (case k8 => k_is); (case a9 => k_is); (case l9 => k_is); (case c9 => k_is); (case k9 => k_is); (case a10 => k_is); (case l10 => k_is); (case c10 => k_is); (case k10 => k_is); (case a11 => k_is); (case l11 => k_is); (case c11 => k_is); (case k11 => k_is); (case a12 => k_is); (case l12 => k_is); (case c12 => k_is); (case k12 => k_is); (case a13 => k_is); (case l13 => k_is); (case c13 => k_is); (case k13 => k_is); (case a14 => k_is); (case l14 => k_is); (case c14 => k_is); (case k14 => k_is); (case a15 => k_is); (case l15 => k_is); (case c15 => k_is); (case k15 => k_is); (case a16 => k_is); (case l16 => k_is); (case c16 => k_is); (case k16 => k_is); (case a17 => k_is); (case l17 => k_is); (case c17 => k_is); (case k17 => k_is); (case a18 => k_is); (case l18 => k_is); (case c18 => k_is); (case k18 => k_is); (case a19 => k_is); (case l19 => k_is); (case c19 => k_is); (case k19 => k_is); (case a20 => k_is); (case l20 => k_is); (case c20 => k_is); (case k20 => k_is); (case a21 => k_is); (case l21 => k_is); (case c21 => k_is); (case k21 => k_is); (case a22 => k_is); (case l22 => k_is); (case c22 => k_is); (case k22 => k_is); (case a23 => k_is); (case l23 => k_is); (case c23 => k_is); (case k23 => k_is); (case a24 => k_is); (case l24 => k_is); (case c24 => k_is); (case k24 => k_is); (case a25 => k_is); (case l25 => k_is); (case c25 => k_is); (case k25 => k_is); (case a26 => k_is); (case l26 => k_is); (case c26 => k_is); (case k26 => k_is); (case a27 => k_is); (case l27 => k_is); (case c27 => k_is); (case k27 => k_is); (case a28 => k_is); (case l28 => k_is); (case c28 => k_is); (case k28 => k_is); (case a29 => k_is); (case l29 => k_is); (case c29 => k_is); (case k29 => k_is); (case a30 => k_is); (case l30 => k_is); (case c30 => k_is); (case k30 => k_is); (case a31 => k_is); (case l31 => k_is); (case c31 => k_is); (case k31 => k_is); (case a32 => k_is); (case l32 => k_is); (case c32 => k_is); (case k32 => k_is); (case ca0 => k_is); (case cb0 => k_is); (case cy0 => k_is); (case ck0 => k_is); (case cd0 => k_is); (case xl0 => k_is); (case xv0 => decide +kernel); (case xs0 => k_is); (case ii0 => k_is); (case it0 => k_is); (case il0 => k_is); (case ic0 => k_is); (case ik0 => k_is); (case no0_0 => k_is); (case no0_1 => k_is); (case ca1 => k_is); (case cb1 => k_is); (case cy1 => k_is); (case ck1 => k_is); (case cx1 => k_exc); (case ca2 => k_is); (case cb2 => k_is); (case cy2 => k_is); (case ck2 => k_is); (case cx2 => k_exc); (case ca3 => k_is); (case cb3 => k_is); (case cy3 => k_is); (case ck3 => k_is); (case xl3 => k_is); (case xv3 => decide +kernel); (case xs3 => k_is); (case ii3 => k_is); (case it3 => k_is); (case il3 => k_is); (case ic3 => k_is); (case ik3 => k_is); (case no3_0 => k_is); (case no3_1 => k_is); (case ca4 => k_is); (case cm4 => k_is); (case ck4 => k_is); (case cp4 => k_is); (case cd4 => k_is); (case co4 => k_is); (case xs4 => k_is); (case ii4 => k_is); (case if4 => k_is); (case il4 => k_is); (case ic4 => k_is); (case ik4 => k_is); (case no4_0 => k_is); (case no4_1 => k_is); (case no4_2 => k_is); (case ca5 => k_is); (case cb5 => k_is); (case cy5 => k_is); (case ck5 => k_is); (case cd5 => k_is); (case ca6 => k_is); (case cb6 => k_is); (case cy6 => k_is); (case ck6 => k_is); (case cx6 => k_exc); (case su5_0 => (first | rfl | k_is)); (case su1_0 => (first | rfl | k_is)); (case su6_0 => (first | rfl | k_is)); (case su2_0 => (first | rfl | k_is)); (case su0_0 => (first | rfl | k_is)); (case su3_0 => (first | rfl | k_is)); (case su5_5 => (first | rfl | k_is)); (case su1_5 => (first | rfl | k_is)); (case su6_5 => (first | rfl | k_is)); (case su2_5 => (first | rfl | k_is)); (case su0_5 => (first | rfl | k_is)); (case su3_5 => (first | rfl | k_is)); (case ec0 => (constructor <;> first | rfl | k_is | kernel_rfl)); (case ki0_NoPolynomial => (first | rfl | k_is | kernel_rfl)); (case ki0_NotWhole => (first | rfl | k_is | kernel_rfl)); (case ki0_RingError => (first | rfl | k_is | kernel_rfl)); (case ki0_TooGreat => (first | rfl | k_is | kernel_rfl)); (case ki0_ValueError => (first | rfl | k_is | kernel_rfl)); (case zVE => k_is); (case z0 => k_is); (case z1 => k_is); (case z2 => k_is); (case z3 => k_is); (case z4 => k_is); (case z5 => k_is); (case z6 => k_is); (case z7 => k_is); (case z8 => k_is); (case z9 => k_is); (case z10 => k_is); (case z11 => k_is); (case q0 => k_is); (case ql0 => k_is); (case qi0 => kernel_rfl); (case q1 => k_is); (case q2 => k_is)
