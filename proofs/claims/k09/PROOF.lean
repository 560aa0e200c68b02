import PyProof.Rows.All
import Wide.All
import OpenK.AllK
import Wide.FinOn
import HandS.ForMost
import HandS.ForExc
import HandS.Wide
import HandS.IsInst
import KE.Datum
import HandS.TupAny
import HandS.TupMul
import HandS.Style
import HandS.Zip
import HandS.Rev
import HandS.RevTup
import PyProof.TableCode
import HandS.ExcInit
import HandS.ExcField
import HandS.ExcIs
import HandS.TryOnly
import HandS.TryMany
import HandS.TupSets
import HandS.Conv
import HandS.TupLe
import HandS.FltList
import KE.DataCmp
import KE.GoesEnum
import PyProof.PureInt
import HandS.More
import PyProof.LongRange
import KE.SortData
import PyProof.MinMaxWalk
import HandS.Text
import HandS.Deep
import HandS.SetFor
import HandS.Codes
import HandS.Strs
import KE.IntTextLaws
import PySem.Challenge.RW_ringhouse_k09_split_known
set_option Elab.async false
set_option linter.all false
set_option maxRecDepth 100000
set_option maxHeartbeats 4000000
namespace T
open PySem PySem.Spec PyProof.Rows L2
/-! ### the monad of mirrors -/
inductive XF where
  | int (i : Int) | row (l : List Int) | str (s : Str)
structure Ex where
  cls : Str
  fs : List (Str × XF)
inductive Rs (α : Type) where
  | ok (a : α) | ex (e : Ex)
def M (α : Type) : Type := Option (Rs α)
def ok {α : Type} (a : α) : M α := some (.ok a)
def exc {α : Type} (e : Ex) : M α := some (.ex e)
def stuck {α : Type} : M α := none
def M.bind {α β : Type} (m : M α) (f : α → M β) : M β := match m with
  | none => none
  | some (.ok a) => f a
  | some (.ex e) => some (.ex e)
theorem bind_ok {α β : Type} (a : α) (f : α → M β) : (ok a).bind f = f a := rfl
theorem bind_okS {α β : Type} (a : α) (f : α → M β) : (ok a).bind f = f a := Eq.trans rfl rfl
theorem bind_bind {α β γ : Type} (m : M α) (f : α → M β) (g : β → M γ) : (m.bind f).bind g = m.bind fun a => (f a).bind g := by
  cases m with
  | none => rfl
  | some r => cases r <;> rfl
theorem bind_ret {α : Type} (m : M α) : m.bind ok = m := by
  cases m with
  | none => rfl
  | some r => cases r <;> rfl
/-- a guard -/
@[irreducible] def grd {α : Type} (c : Prop) [Decidable c] (m : M α) : M α := if c then m else none
theorem grd_pos {α : Type} {c : Prop} [Decidable c] (h : c) (m : M α) : grd c m = m := by unfold grd; exact if_pos h
theorem grd_neg {α : Type} {c : Prop} [Decidable c] (h : ¬ c) (m : M α) : grd c m = none := by unfold grd; exact if_neg h
/-! ### heaps -/
abbrev Fr := PySem.W.Frag
abbrev Le (H H' : Hp) : Prop := Same H H'
/-- the heap H and its data part D grow -/
structure Ext (H D H' D' : Hp) : Prop where
  h : Le H H'
  d : Le D D'
  dh : Le D' H'
  out : ∀ p, D p = none → H p ≠ none → D' p = none
theorem Ext.refl {H D : Hp} (h : Le D H) : Ext H D H D := ⟨Same.refl _, Same.refl _, h, fun _ e _ => e⟩
theorem Le.ne {H H' : Hp} (e : Le H H') {p : Addr} (h : H p ≠ none) : H' p ≠ none := fun z => h (e.free z)
theorem Le.eq {H H' : Hp} (e : Le H H') {p : Addr} (h : H p ≠ none) : H' p = H p := by
  cases q : H p with
  | none => exact absurd q h
  | some o => exact e p o q
theorem Ext.trans {H D H1 D1 H2 D2 : Hp} (a : Ext H D H1 D1) (b : Ext H1 D1 H2 D2) : Ext H D H2 D2 :=
  ⟨a.h.trans b.h, a.d.trans b.d, b.dh, fun p h1 h2 => b.out p (a.out p h1 h2) (a.h.ne h2)⟩
/-- a new object, laid into the data -/
theorem Ext.laid {H D : Hp} {p : Addr} {o : HO} (h : Le D H) (n : H p = none) : Ext H D (upd H p o) (upd D p o) := by
  have nd : D p = none := h.free n
  refine ⟨fun b x e => ?_, fun b x e => ?_, fun b x e => ?_, fun b h1 h2 => ?_⟩
  · rw [upd_ne (ne_of_none e n)]; exact e
  · rw [upd_ne (ne_of_none e nd)]; exact e
  · by_cases z : b = p
    · subst z; rw [upd_same] at e ⊢; exact e
    · rw [upd_ne z] at e ⊢; exact h b x e
  · by_cases z : b = p
    · subst z; exact absurd n h2
    · rw [upd_ne z]; exact h1
/-- a new object, not in the data -/
theorem Ext.fresh {H D : Hp} {p : Addr} {o : HO} (h : Le D H) (n : H p = none) : Ext H D (upd H p o) D := by
  refine ⟨fun b x e => ?_, Same.refl _, fun b x e => ?_, fun b h1 _ => h1⟩
  · rw [upd_ne (ne_of_none e n)]; exact e
  · rw [upd_ne (ne_of_none (h b x e) n)]; exact h b x e
theorem SqT.mono {K : Fr} {H H' : Hp} {a : Addr} {xs : List V} (e : Le H H') (h : SqT K H a xs) : SqT K H' a xs := by
  rcases h with (h | ⟨o, h⟩) | h
  · exact .inl (.inl (e _ _ h))
  · exact .inl (.inr ⟨o, e _ _ h⟩)
  · exact .inr h
/-! ### types of data -/
structure Dt (α : Type) where
  rep : Fr → Hp → α → V → Prop
  mono : ∀ {K : Fr} {H H' : Hp} {a : α} {v : V}, Le H H' → rep K H a v → rep K H' a v
theorem Dt.monos {α : Type} (A : Dt α) {K : Fr} {H H' : Hp} (e : Le H H') : ∀ {xs : List α} {vs : List V}, Paired (A.rep K H) xs vs → Paired (A.rep K H') xs vs
  | _, _, .nil => .nil
  | _, _, .cons r t => .cons (A.mono e r) (Dt.monos A e t)
def tInt : Dt Int := ⟨fun _ _ i v => v = .int i, fun _ h => h⟩
def tBool : Dt Bool := ⟨fun _ _ i v => v = .bl i, fun _ h => h⟩
def tNone : Dt Unit := ⟨fun _ _ _ v => v = .non, fun _ h => h⟩
/-- a tuple of any length -/
def tRow {α : Type} (A : Dt α) : Dt (List α) := ⟨fun K H xs v => ∃ p vs, v = .ref p ∧ SqT K H p vs ∧ Paired (A.rep K H) xs vs,
  fun e ⟨p, vs, h1, h2, h3⟩ => ⟨p, vs, h1, SqT.mono e h2, A.monos e h3⟩⟩
/-- a list that nobody changes -/
def tLst {α : Type} (A : Dt α) : Dt (List α) := ⟨fun K H xs v => ∃ p vs, v = .ref p ∧ H p = some (.lst vs) ∧ Paired (A.rep K H) xs vs,
  fun e ⟨p, vs, h1, h2, h3⟩ => ⟨p, vs, h1, e _ _ h2, A.monos e h3⟩⟩
/-- the script -/
def tScr : Dt (List Int) := ⟨fun K H xs v => ∃ p, v = .ref p ∧ SqL K H p (xs.map V.int), fun e ⟨p, h1, h2⟩ => ⟨p, h1, Same.seq e h2⟩⟩
def tRec2 {α β : Type} (A : Dt α) (B : Dt β) : Dt (α × β) := ⟨fun K H x v => ∃ p v1 v2, v = .ref p ∧ SqT K H p [v1, v2] ∧ A.rep K H x.1 v1 ∧ B.rep K H x.2 v2,
  fun e ⟨p, v1, v2, h1, h2, h3, h4⟩ => ⟨p, v1, v2, h1, SqT.mono e h2, A.mono e h3, B.mono e h4⟩⟩
def tRec3 {α β γ : Type} (A : Dt α) (B : Dt β) (C : Dt γ) : Dt (α × β × γ) := ⟨fun K H x v => ∃ p v1 v2 v3, v = .ref p ∧ SqT K H p [v1, v2, v3] ∧ A.rep K H x.1 v1 ∧ B.rep K H x.2.1 v2 ∧ C.rep K H x.2.2 v3,
  fun e ⟨p, v1, v2, v3, h1, h2, h3, h4, h5⟩ => ⟨p, v1, v2, v3, h1, SqT.mono e h2, A.mono e h3, B.mono e h4, C.mono e h5⟩⟩
def tOpt {α : Type} (A : Dt α) : Dt (Option α) := ⟨fun K H x v => match x with
    | none => v = .non
    | some a => v ≠ .non ∧ A.rep K H a v,
  fun {K H H' a v} e h => by
    cases a with
    | none => exact h
    | some a => exact ⟨h.1, A.mono e h.2⟩⟩
/-! ### what a name may hold -/
structure Rp (α : Type) where
  rep : Fr → Hp → Hp → List Addr → α → V → Prop
  mono : ∀ {K : Fr} {H H' D D' : Hp} {fp : List Addr} {a : α} {v : V}, Le H H' → Le D D' → rep K H D fp a v → rep K H' D' fp a v
def Stable {α : Type} (R : Rp α) : Prop := ∀ (K : Fr) (H H' D D' : Hp) (fp : List Addr) (a : α) (v : V), (∀ p ∈ fp, H' p = H p) → Le D D' → R.rep K H D fp a v → R.rep K H' D' fp a v
def dat {α : Type} (A : Dt α) : Rp α := ⟨fun K _ D fp a v => fp = [] ∧ A.rep K D a v, fun _ e h => ⟨h.1, A.mono e h.2⟩⟩
theorem dat_st {α : Type} (A : Dt α) : Stable (dat A) := fun _ _ _ _ _ _ _ _ _ e h => ⟨h.1, A.mono e h.2⟩
/-- a list of one's own -/
def own {α : Type} (A : Dt α) : Rp (List α) := ⟨fun K H D fp xs v => ∃ p vs, v = .ref p ∧ fp = [p] ∧ H p = some (.lst vs) ∧ Paired (A.rep K D) xs vs,
  fun e d ⟨p, vs, h1, h2, h3, h4⟩ => ⟨p, vs, h1, h2, e _ _ h3, A.monos d h4⟩⟩
theorem own_st {α : Type} (A : Dt α) : Stable (own A) := fun K H H' D D' fp a v k d ⟨p, vs, h1, h2, h3, h4⟩ =>
  ⟨p, vs, h1, h2, by rw [k p (by rw [h2]; exact List.mem_cons_self)]; exact h3, A.monos d h4⟩
/-- a list that may be read now -/
def bor {α : Type} (A : Dt α) : Rp (List α) := ⟨fun K H D fp xs v => fp = [] ∧ ∃ p vs, v = .ref p ∧ SqL K H p vs ∧ Paired (A.rep K D) xs vs,
  fun e d ⟨h0, p, vs, h1, h3, h4⟩ => ⟨h0, p, vs, h1, Same.seq e h3, A.monos d h4⟩⟩
/-! ### views -/
structure Ent where
  slot : Nat
  α : Type
  R : Rp α
  st : Stable R
  val : α
abbrev Vw := List Ent
abbrev eD {α : Type} (i : Nat) (A : Dt α) (a : α) : Ent := ⟨i, α, dat A, dat_st A, a⟩
abbrev eO {α : Type} (i : Nat) (A : Dt α) (a : List α) : Ent := ⟨i, List α, own A, own_st A, a⟩
def find (i : Nat) : Vw → Option Ent
  | [] => none
  | e :: V => bif Nat.beq e.slot i then some e else find i V
def rmv (i : Nat) : Vw → Vw
  | [] => []
  | e :: V => bif Nat.beq e.slot i then rmv i V else e :: rmv i V
def put (e : Ent) (V : Vw) : Vw := e :: rmv e.slot V
def pick : List Nat → Vw → Vw
  | [], _ => []
  | i :: is, V => match find i V with
    | some e => e :: pick is (rmv i V)
    | none => []
def Hold (K : Fr) (H D : Hp) (σ : L2.St) : Vw → List Addr → Prop
  | [], os => os = []
  | e :: V, os => ∃ fp os', os = fp ++ os' ∧ (∃ v, σ[e.slot]? = some (some v) ∧ e.R.rep K H D fp e.val v) ∧ Hold K H D σ V os'
section
variable {K : Fr} {H H' D D' : Hp} {σ : L2.St}
theorem Hold.agree : ∀ {V : Vw} {os : List Addr}, (∀ p ∈ os, H' p = H p) → Le D D' → Hold K H D σ V os → Hold K H' D' σ V os
  | [], _, _, _, h => h
  | e :: V, _, k, d, ⟨fp, os', h1, ⟨v, h2, h3⟩, h4⟩ => ⟨fp, os', h1, ⟨v, h2, e.st K H H' D D' fp e.val v (fun p hp => k p (by rw [h1]; exact List.mem_append_left _ hp)) d h3⟩,
      Hold.agree (fun p hp => k p (by rw [h1]; exact List.mem_append_right _ hp)) d h4⟩
theorem beq_true {a b : Nat} (h : Nat.beq a b = true) : a = b := Nat.eq_of_beq_eq_true h
theorem Hold.rmv (i : Nat) : ∀ {V : Vw} {os : List Addr}, os.Nodup → Hold K H D σ V os → ∃ os', Hold K H D σ (rmv i V) os' ∧ os'.Nodup ∧ ∀ p ∈ os', p ∈ os
  | [], os, nd, h => ⟨os, h, nd, fun _ z => z⟩
  | e :: V, os, nd, ⟨fp, os', h1, h2, h3⟩ => by
    subst h1
    obtain ⟨nd1, nd2, dj⟩ := List.nodup_append.mp nd
    obtain ⟨o2, q1, q2, q3⟩ := Hold.rmv i nd2 h3
    unfold T.rmv
    cases c : Nat.beq e.slot i with
    | true => exact ⟨o2, q1, q2, fun p hp => List.mem_append_right _ (q3 p hp)⟩
    | false =>
      refine ⟨fp ++ o2, ⟨fp, o2, rfl, h2, q1⟩, List.nodup_append.mpr ⟨nd1, q2, fun a ha b hb => dj a ha b (q3 b hb)⟩, fun p hp => ?_⟩
      rcases List.mem_append.mp hp with z | z
      · exact List.mem_append_left _ z
      · exact List.mem_append_right _ (q3 p z)
theorem find_slot {i : Nat} : ∀ {V : Vw} {e : Ent}, find i V = some e → e.slot = i
  | [], _, h => nomatch h
  | e' :: V, e, h => by
    unfold find at h
    cases c : Nat.beq e'.slot i with
    | true => rw [c] at h; cases h; exact beq_true c
    | false => rw [c] at h; exact find_slot h
/-- the entry of a slot, and the rest -/
theorem Hold.find {i : Nat} : ∀ {V : Vw} {os : List Addr} {e : Ent}, find i V = some e → os.Nodup → Hold K H D σ V os →
    ∃ fp os' v, σ[i]? = some (some v) ∧ e.R.rep K H D fp e.val v ∧ Hold K H D σ (T.rmv i V) os' ∧ (fp ++ os').Nodup ∧ (∀ p ∈ fp ++ os', p ∈ os)
  | [], _, _, h, _, _ => nomatch h
  | e' :: V, os, e, h, nd, ⟨fp, os', h1, ⟨v, h2, h2'⟩, h3⟩ => by
    subst h1
    obtain ⟨nd1, nd2, dj⟩ := List.nodup_append.mp nd
    unfold T.find at h
    unfold T.rmv
    cases c : Nat.beq e'.slot i with
    | true =>
      rw [c] at h; cases h
      obtain ⟨o2, q1, q2, q3⟩ := Hold.rmv i nd2 h3
      refine ⟨fp, o2, v, by rw [← beq_true c]; exact h2, h2', q1, List.nodup_append.mpr ⟨nd1, q2, fun a ha b hb => dj a ha b (q3 b hb)⟩, fun p hp => ?_⟩
      rcases List.mem_append.mp hp with z | z
      · exact List.mem_append_left _ z
      · exact List.mem_append_right _ (q3 p z)
    | false =>
      rw [c] at h
      obtain ⟨f2, o2, v2, q1, q2, q3, q4, q5⟩ := Hold.find h nd2 h3
      obtain ⟨m1, m2, mj⟩ := List.nodup_append.mp q4
      refine ⟨f2, fp ++ o2, v2, q1, q2, ⟨fp, o2, rfl, ⟨v, h2, h2'⟩, q3⟩, ?_, fun p hp => ?_⟩
      · refine List.nodup_append.mpr ⟨m1, List.nodup_append.mpr ⟨nd1, m2, fun a ha b hb => dj a ha b (q5 b (List.mem_append_right _ hb))⟩, fun a ha b hb => ?_⟩
        rcases List.mem_append.mp hb with z | z
        · exact fun e => dj b z a (q5 a (List.mem_append_left _ ha)) e.symm
        · exact mj a ha b z
      · rcases List.mem_append.mp hp with z | z
        · exact List.mem_append_right _ (q5 p (List.mem_append_left _ z))
        · rcases List.mem_append.mp z with z | z
          · exact List.mem_append_left _ z
          · exact List.mem_append_right _ (q5 p (List.mem_append_right _ z))
theorem Hold.set {i : Nat} {w : Option V} : ∀ {V : Vw} {os : List Addr}, Hold K H D σ (T.rmv i V) os → Hold K H D (σ.set i w) (T.rmv i V) os
  | [], _, h => h
  | e :: V, os, h => by
    unfold T.rmv at h ⊢
    cases c : Nat.beq e.slot i with
    | true => rw [c] at h; exact Hold.set h
    | false =>
      rw [c] at h
      obtain ⟨fp, os', h1, ⟨v, h2, h3⟩, h4⟩ := h
      refine ⟨fp, os', h1, ⟨v, ?_, h3⟩, Hold.set h4⟩
      rw [List.getElem?_set_ne]
      · exact h2
      · intro z; rw [z] at c; rw [Nat.beq_refl] at c; cases c
theorem Hold.pick : ∀ {is : List Nat} {V : Vw} {os : List Addr}, os.Nodup → Hold K H D σ V os → ∃ os', Hold K H D σ (T.pick is V) os' ∧ os'.Nodup ∧ ∀ p ∈ os', p ∈ os
  | [], _, _, _, _ => ⟨[], rfl, List.nodup_nil, fun _ z => nomatch z⟩
  | i :: is, V, os, nd, h => by
    unfold T.pick
    cases c : T.find i V with
    | none => exact ⟨[], rfl, List.nodup_nil, fun _ z => nomatch z⟩
    | some e =>
      obtain ⟨fp, os', v, q1, q2, q3, q4, q5⟩ := Hold.find c nd h
      obtain ⟨m1, m2, mj⟩ := List.nodup_append.mp q4
      obtain ⟨o3, p1, p2, p3⟩ := Hold.pick (is := is) m2 q3
      refine ⟨fp ++ o3, ⟨fp, o3, rfl, ⟨v, by rw [find_slot c]; exact q1, q2⟩, p1⟩, List.nodup_append.mpr ⟨m1, p2, fun a ha b hb => mj a ha b (p3 b hb)⟩, fun p hp => ?_⟩
      rcases List.mem_append.mp hp with z | z
      · exact q5 p (List.mem_append_left _ z)
      · exact q5 p (List.mem_append_right _ (p3 p z))
end
/-- the state within a def: H0, D0 its entry -/
structure Rel (K : Fr) (H0 D0 : Hp) (V : Vw) (σ : L2.St) (H D : Hp) (os : List Addr) : Prop where
  ext : Ext H0 D0 H D
  own : ∀ p ∈ os, H0 p = none ∧ D p = none ∧ H p ≠ none
  nd : os.Nodup
  hold : Hold K H D σ V os
section
variable {K : Fr} {H0 D0 H D H1 D1 : Hp} {V : Vw} {σ : L2.St} {os : List Addr}
theorem Rel.grow (r : Rel K H0 D0 V σ H D os) (e : Ext H D H1 D1) : Rel K H0 D0 V σ H1 D1 os :=
  ⟨r.ext.trans e, fun p hp => ⟨(r.own p hp).1, e.out p (r.own p hp).2.1 (r.own p hp).2.2, e.h.ne (r.own p hp).2.2⟩, r.nd,
    r.hold.agree (fun p hp => e.h.eq (r.own p hp).2.2) e.d⟩
theorem Rel.pick (r : Rel K H0 D0 V σ H D os) (is : List Nat) : ∃ os', Rel K H0 D0 (T.pick is V) σ H D os' := by
  obtain ⟨os', q1, q2, q3⟩ := r.hold.pick (is := is) r.nd
  exact ⟨os', r.ext, fun p hp => r.own p (q3 p hp), q2, q1⟩
theorem Rel.le (r : Rel K H0 D0 V σ H D os) : Le D H := r.ext.dh
end
/-- an exception as it lies -/
def XFrep (K : Fr) (D : Hp) : XF → V → Prop
  | .int i, v => v = .int i
  | .row l, v => (tRow tInt).rep K D l v
  | .str s, v => v = .str s
def XRep (K : Fr) (mg : Str → Option Value) (D : Hp) (e : Ex) (c : Value) (d : Option Addr) : Prop :=
  ∃ C, mg e.cls = some (.ref C) ∧ c = .ref C ∧ match e.fs with
    | [] => d = none
    | f :: fs => ∃ dx vs, d = some dx ∧ D dx = some (.xd vs) ∧ Paired (fun (p : Str × XF) (q : Str × V) => p.1 = q.1 ∧ XFrep K D p.2 q.2) (f :: fs) vs
/-- what a result's own objects are -/
def Frs (H D' H' : Hp) (fp : List Addr) : Prop := fp.Nodup ∧ ∀ p ∈ fp, H p = none ∧ D' p = none ∧ H' p ≠ none
theorem Frs.nil {H D' H' : Hp} : Frs H D' H' [] := ⟨List.nodup_nil, fun _ z => nomatch z⟩
theorem Frs.back {H H1 D' H' : Hp} {fp : List Addr} (e : Le H H1) (f : Frs H1 D' H' fp) : Frs H D' H' fp := ⟨f.1, fun p hp => ⟨e.free (f.2 p hp).1, (f.2 p hp).2⟩⟩
/-- what surrounds an expression: the wish about exceptions, the view that it leans on, the calls that there is room for -/
structure Ctx where
  W : WX
  Vx : Vw
  k : Nat
  c : Bool
structure Wf (X : Cx) (G : Ctx) : Prop where
  tk : Takes X G.W
  nd : X.N.Nodup
  room : G.c = true → Room G.k X.A
  calm : G.c = true → X.calm = true
  hu : X.A.units + 64 < cLine
  po : PassesOwn (model X.prog X.w) X.A X.env X.xe
def ePost {α : Type} (K : Fr) (mg : Str → Option Value) (G : Ctx) (H0 D0 : Hp) (σ : L2.St) (H D : Hp) (R : Rp α) (Q : VK) : Rs α → Prop
  | .ok a => ∀ v H' D' fp, Ext H D H' D' → R.rep K H' D' fp a v → Frs H D' H' fp → Q v H'
  | .ex e => ∀ c d H' D' os', Rel K H0 D0 G.Vx σ H' D' os' → XRep K mg D' e c d → G.W c d σ H'
def tE {α : Type} (K : Fr) (mg : Str → Option Value) (G : Ctx) (V : Vw) (R : Rp α) (r : M α) : TE := fun σ H Q =>
  ∃ H0 D0 D os, Rel K H0 D0 V σ H D os ∧ ∃ x, r = some x ∧ ePost K mg G H0 D0 σ H D R Q x
/-- a test's -/
def bPost (K : Fr) (mg : Str → Option Value) (G : Ctx) (H0 D0 : Hp) (σ : L2.St) (H D : Hp) (Q : Bool → Hp → Prop) : Rs Bool → Prop
  | .ok a => ∀ H' D', Ext H D H' D' → Q a H'
  | .ex e => ∀ c d H' D' os', Rel K H0 D0 G.Vx σ H' D' os' → XRep K mg D' e c d → G.W c d σ H'
def tB (K : Fr) (mg : Str → Option Value) (G : Ctx) (V : Vw) (r : M Bool) : TT := fun σ H Q =>
  ∃ H0 D0 D os, Rel K H0 D0 V σ H D os ∧ ∃ x, r = some x ∧ bPost K mg G H0 D0 σ H D Q x
def ET (X : Cx) (G : Ctx) (V : Vw) (e : Expr) {α : Type} (R : Rp α) (r : M α) : Prop := Wf X G → PE X e (tE X.K X.mg G V R r)
def BT (X : Cx) (G : Ctx) (V : Vw) (e : Expr) (r : M Bool) : Prop := Wf X G → PT X e (tB X.K X.mg G V r)
/-- .. within and, or -/
def BW (X : Cx) (G : Ctx) (V : Vw) (e : Expr) (r : M Bool) : Prop := Wf X G → PW X e (tB X.K X.mg G V r)
theorem _root_.L2.PE.weak {X : Cx} {e : Expr} {t t' : TE} (h : PE X e t) (w : ∀ σ H Q, t' σ H Q → t σ H Q) : PE X e t' := ⟨fun pins s σ H Q I hq => h.run pins s σ H Q I (w _ _ _ hq)⟩
theorem _root_.L2.PT.weak {X : Cx} {e : Expr} {t t' : TT} (h : PT X e t) (w : ∀ σ H Q, t' σ H Q → t σ H Q) : PT X e t' := ⟨fun pins s σ H Q I hq => h.run pins s σ H Q I (w _ _ _ hq)⟩
theorem _root_.L2.PW.weak {X : Cx} {e : Expr} {t t' : TT} (h : PW X e t) (w : ∀ σ H Q, t' σ H Q → t σ H Q) : PW X e t' := ⟨fun wh pins s σ H Q I hq => h.run wh pins s σ H Q I (w _ _ _ hq)⟩
theorem _root_.L2.PA.weak {X : Cx} {e : List Expr} {t t' : TA} (h : PA X e t) (w : ∀ σ H Q, t' σ H Q → t σ H Q) : PA X e t' := ⟨fun pos pins s σ H Q I hq => h.run pos pins s σ H Q I (w _ _ _ hq)⟩
theorem _root_.L2.PS.weak {X : Cx} {e : Stmt} {t t' : TS} (h : PS X e t) (w : ∀ D σ H, t' D σ H → t D σ H) : PS X e t' := ⟨fun pins s σ H D I hq => h.run pins s σ H D I (w _ _ _ hq)⟩
theorem _root_.L2.PSs.weak {X : Cx} {e : List Stmt} {t t' : TS} (h : PSs X e t) (w : ∀ D σ H, t' D σ H → t D σ H) : PSs X e t' := ⟨fun pins s σ H D I hq => h.run pins s σ H D I (w _ _ _ hq)⟩
section
variable {α β : Type} {K : Fr} {mg : Str → Option Value} {G : Ctx} {H0 D0 H D H1 D1 : Hp} {σ : L2.St} {V : Vw} {os : List Addr}
theorem ePost.grow {R : Rp α} {Q : VK} {x : Rs α} (h : ePost K mg G H0 D0 σ H D R Q x) (e : Ext H D H1 D1) : ePost K mg G H0 D0 σ H1 D1 R Q x := by
  cases x with
  | ok a => exact fun v H' D' fp e' r f => h v H' D' fp (e.trans e') r (f.back e.h)
  | ex _ => exact h
theorem bPost.grow {Q : Bool → Hp → Prop} {x : Rs Bool} (h : bPost K mg G H0 D0 σ H D Q x) (e : Ext H D H1 D1) : bPost K mg G H0 D0 σ H1 D1 Q x := by
  cases x with
  | ok a => exact fun H' D' e' => h H' D' (e.trans e')
  | ex _ => exact h
theorem bind_some {m : M α} {f : α → M β} {x : Rs β} (h : m.bind f = some x) : (∃ a, m = ok a ∧ f a = some x) ∨ ∃ e, m = exc e ∧ x = .ex e := by
  cases m with
  | none => cases h
  | some r =>
    cases r with
    | ok a => exact .inl ⟨a, rfl, h⟩
    | ex e => exact .inr ⟨e, rfl, (Option.some.inj h).symm⟩
/-- a part, then the rest -/
theorem seqE {R : Rp α} {m : M α} {f : α → M β} {x : Rs β} {P : Hp → Hp → Rs β → Prop} {Q' : VK} (hr : Rel K H0 D0 V σ H D os) (hx : m.bind f = some x) (hp : P H D x)
    (hex : ∀ e, P H D (.ex e) → ∀ c d H' D' os', Rel K H0 D0 G.Vx σ H' D' os' → XRep K mg D' e c d → G.W c d σ H')
    (hgrow : ∀ H1 D1, Ext H D H1 D1 → P H D x → P H1 D1 x)
    (k : ∀ a H1 D1 fp v, m = ok a → f a = some x → Ext H D H1 D1 → R.rep K H1 D1 fp a v → Frs H D1 H1 fp → Rel K H0 D0 V σ H1 D1 os → P H1 D1 x → Q' v H1) :
    tE K mg G V R m σ H Q' := by
  rcases bind_some hx with ⟨a, rfl, hf⟩ | ⟨e, rfl, rfl⟩
  · exact ⟨H0, D0, D, os, hr, .ok a, rfl, fun v H' D' fp e r f => k a H' D' fp v rfl hf e r f (hr.grow e) (hgrow _ _ e hp)⟩
  · exact ⟨H0, D0, D, os, hr, .ex e, rfl, hex e hp⟩
theorem seqEE {R : Rp α} {R' : Rp β} {m : M α} {f : α → M β} {x : Rs β} {Q Q' : VK} (hr : Rel K H0 D0 V σ H D os) (hx : m.bind f = some x) (hp : ePost K mg G H0 D0 σ H D R' Q x)
    (k : ∀ a H1 D1 fp v, m = ok a → f a = some x → Ext H D H1 D1 → R.rep K H1 D1 fp a v → Frs H D1 H1 fp → Rel K H0 D0 V σ H1 D1 os → ePost K mg G H0 D0 σ H1 D1 R' Q x → Q' v H1) :
    tE K mg G V R m σ H Q' := seqE (P := fun H D x => ePost K mg G H0 D0 σ H D R' Q x) hr hx hp (fun _ h => h) (fun _ _ e h => h.grow e) k
theorem seqEB {R : Rp α} {m : M α} {f : α → M Bool} {x : Rs Bool} {Q : Bool → Hp → Prop} {Q' : VK} (hr : Rel K H0 D0 V σ H D os) (hx : m.bind f = some x) (hp : bPost K mg G H0 D0 σ H D Q x)
    (k : ∀ a H1 D1 fp v, m = ok a → f a = some x → Ext H D H1 D1 → R.rep K H1 D1 fp a v → Frs H D1 H1 fp → Rel K H0 D0 V σ H1 D1 os → bPost K mg G H0 D0 σ H1 D1 Q x → Q' v H1) :
    tE K mg G V R m σ H Q' := seqE (P := fun H D x => bPost K mg G H0 D0 σ H D Q x) hr hx hp (fun _ h => h) (fun _ _ e h => h.grow e) k
/-- a test, then the rest -/
theorem seqB {m : M Bool} {f : Bool → M β} {x : Rs β} {P : Hp → Hp → Rs β → Prop} {Q' : Bool → Hp → Prop} (hr : Rel K H0 D0 V σ H D os) (hx : m.bind f = some x) (hp : P H D x)
    (hex : ∀ e, P H D (.ex e) → ∀ c d H' D' os', Rel K H0 D0 G.Vx σ H' D' os' → XRep K mg D' e c d → G.W c d σ H')
    (hgrow : ∀ H1 D1, Ext H D H1 D1 → P H D x → P H1 D1 x)
    (k : ∀ a H1 D1, m = ok a → f a = some x → Ext H D H1 D1 → Rel K H0 D0 V σ H1 D1 os → P H1 D1 x → Q' a H1) :
    tB K mg G V m σ H Q' := by
  rcases bind_some hx with ⟨a, rfl, hf⟩ | ⟨e, rfl, rfl⟩
  · exact ⟨H0, D0, D, os, hr, .ok a, rfl, fun H' D' e => k a H' D' rfl hf e (hr.grow e) (hgrow _ _ e hp)⟩
  · exact ⟨H0, D0, D, os, hr, .ex e, rfl, hex e hp⟩
theorem seqBB {m : M Bool} {f : Bool → M Bool} {x : Rs Bool} {Q : Bool → Hp → Prop} {Q' : Bool → Hp → Prop} (hr : Rel K H0 D0 V σ H D os) (hx : m.bind f = some x) (hp : bPost K mg G H0 D0 σ H D Q x)
    (k : ∀ a H1 D1, m = ok a → f a = some x → Ext H D H1 D1 → Rel K H0 D0 V σ H1 D1 os → bPost K mg G H0 D0 σ H1 D1 Q x → Q' a H1) :
    tB K mg G V m σ H Q' := seqB (P := fun H D x => bPost K mg G H0 D0 σ H D Q x) hr hx hp (fun _ h => h) (fun _ _ e h => h.grow e) k
/-- handing on a value of data, the heap as it is -/
theorem ePost.here {A : Dt α} {Q : VK} {a : α} {v : L2.V} (hr : Rel K H0 D0 V σ H D os) (h : ePost K mg G H0 D0 σ H D (dat A) Q (.ok a)) (r : A.rep K D a v) : Q v H := h v H D [] (Ext.refl hr.le) ⟨rfl, r⟩ .nil
end
end T
set_option maxRecDepth 100000
set_option maxHeartbeats 4000000
namespace T
open PySem PySem.Spec PyProof.Rows L2
section
variable {X : Cx} {G : Ctx} {Γ : Vw} {α β γ δ : Type} {a b c : Expr} {pos : Pos}
/-! ### names, constants -/
theorem E_var (i : Nat) {x : Str} {A : Dt α} {val : α} (hf : find i Γ = some (eD i A val) := by rfl) (hN : X.N[i]? = some x := by rfl) (hv : Vis X.env.scope x := by first | exact Or.inl rfl | exact Or.inr (Or.inl rfl) | exact Or.inr (Or.inr rfl))
    (hd : (x == ("__debug__" : Str)) = false := by decide) (hcd : (x == ("__classdict__" : Str)) = false := by decide) : ET X G Γ (.Name x pos) (dat A) (ok val) := fun w =>
  (pe_var hN hv hd hcd).weak fun σ H Q ⟨H0, D0, D, os, hr, x, hx, hp⟩ => by
    cases hx
    obtain ⟨fp, os', v, q1, ⟨q2, q3⟩, _, _, _⟩ := hr.hold.find hf hr.nd
    exact ⟨v, q1, hp.here hr q3⟩
/-- a list of one's own, to be read at once -/
theorem E_own (i : Nat) {x : Str} {A : Dt α} {val : List α} (hf : find i Γ = some (eO i A val) := by rfl) (hN : X.N[i]? = some x := by rfl) (hv : Vis X.env.scope x := by first | exact Or.inl rfl | exact Or.inr (Or.inl rfl) | exact Or.inr (Or.inr rfl))
    (hd : (x == ("__debug__" : Str)) = false := by decide) (hcd : (x == ("__classdict__" : Str)) = false := by decide) : ET X G Γ (.Name x pos) (bor A) (ok val) := fun w =>
  (pe_var hN hv hd hcd).weak fun σ H Q ⟨H0, D0, D, os, hr, x, hx, hp⟩ => by
    cases hx
    obtain ⟨fp, os', v, q1, ⟨p, vs, r1, r2, r3, r4⟩, _, _, _⟩ := hr.hold.find hf hr.nd
    exact ⟨v, q1, hp v H D [] (Ext.refl hr.le) ⟨rfl, p, vs, r1, SqL.of r3, r4⟩ .nil⟩
theorem E_int {i : Int} {j : Nat} : ET X G Γ (.Constant (.int i) j pos) (dat tInt) (ok i) := fun w =>
  pe_int.weak fun σ H Q ⟨H0, D0, D, os, hr, x, hx, hp⟩ => by cases hx; exact hp.here hr rfl
theorem E_bool {i : Bool} {j : Nat} : ET X G Γ (.Constant (.bool i) j pos) (dat tBool) (ok i) := fun w =>
  pe_bl.weak fun σ H Q ⟨H0, D0, D, os, hr, x, hx, hp⟩ => by cases hx; exact hp.here hr rfl
theorem E_none {j : Nat} : ET X G Γ (.Constant .none j pos) (dat tNone) (ok ()) := fun w =>
  pe_non.weak fun σ H Q ⟨H0, D0, D, os, hr, x, hx, hp⟩ => by cases hx; exact hp.here hr rfl
theorem E_noneO {A : Dt α} {j : Nat} : ET X G Γ (.Constant .none j pos) (dat (tOpt A)) (ok none) := fun w =>
  pe_non.weak fun σ H Q ⟨H0, D0, D, os, hr, x, hx, hp⟩ => by cases hx; exact hp.here hr rfl
/-- a constant of the module -/
structure GlobD (K : Fr) (mg : Str → Option Value) (x : Str) (A : Dt α) (val : α) : Prop where
  ex : ∃ u v, mg x = some u ∧ RelV v u ∧ ∀ H, A.rep K H val v
theorem E_glob {x : Str} {A : Dt α} {val : α} (h : GlobD X.K X.mg x A val) (hg : Gl X x := by rfl) (hd : (x == ("__debug__" : Str)) = false := by decide) : ET X G Γ (.Name x pos) (dat A) (ok val) := fun w => by
  obtain ⟨u, v, h1, h2, h3⟩ := h.ex
  exact (pe_glob hg h1 h2 hd).weak fun σ H Q ⟨H0, D0, D, os, hr, x, hx, hp⟩ => by cases hx; exact hp.here hr (h3 D)
/-! ### from one type to another -/
theorem E_eq {R : Rp α} {r r' : M α} (h : ET X G Γ a R r) (e : r = r') : ET X G Γ a R r' := e ▸ h
/-- a fresh list, never changed from here on -/
theorem E_frz {A : Dt α} {r : M (List α)} (h : ET X G Γ a (own A) r) : ET X G Γ a (dat (tLst A)) r := fun w =>
  (h w).weak fun σ H Q ⟨H0, D0, D, os, hr, x, hx, hp⟩ => ⟨H0, D0, D, os, hr, x, hx, by
    cases x with
    | ex e => exact hp
    | ok xs =>
      intro v H' D' fp e ⟨p, vs, r1, r2, r3, r4⟩ f
      subst r1; subst r2
      obtain ⟨f1, f2, f3⟩ := f.2 p List.mem_cons_self
      have hup : Le D' (upd D' p (.lst vs)) := fun b o z => by rw [upd_ne (ne_of_none z f2)]; exact z
      refine hp (.ref p) H' (upd D' p (.lst vs)) [] ⟨e.h, e.d.trans hup, fun b o z => ?_, fun b h1 h2 => ?_⟩ ⟨rfl, p, vs, rfl, upd_same, A.monos hup r4⟩ .nil
      · by_cases q : b = p
        · subst q; rw [upd_same] at z; cases z; exact r3
        · rw [upd_ne q] at z; exact e.dh b o z
      · by_cases q : b = p
        · subst q; exact absurd f1 h2
        · rw [upd_ne q]; exact e.out b h1 h2⟩
theorem E_bor {A : Dt α} {r : M (List α)} (h : ET X G Γ a (dat (tLst A)) r) : ET X G Γ a (bor A) r := fun w =>
  (h w).weak fun σ H Q ⟨H0, D0, D, os, hr, x, hx, hp⟩ => ⟨H0, D0, D, os, hr, x, hx, by
    cases x with
    | ex e => exact hp
    | ok xs =>
      intro v H' D' fp e ⟨h0, p, vs, r1, r3, r4⟩ f
      exact hp v H' D' [] e ⟨rfl, p, vs, r1, SqL.of (e.dh _ _ r3), r4⟩ .nil⟩
theorem E_borF {A : Dt α} {r : M (List α)} (h : ET X G Γ a (own A) r) : ET X G Γ a (bor A) r := E_bor (E_frz h)
theorem Paired.ints {K : Fr} {D : Hp} : ∀ {xs : List Int}, Paired (tInt.rep K D) xs (xs.map V.int)
  | [] => .nil
  | x :: xs => .cons rfl (Paired.ints (xs := xs))
theorem E_borS {r : M (List Int)} (h : ET X G Γ a (dat tScr) r) : ET X G Γ a (bor tInt) r := fun w =>
  (h w).weak fun σ H Q ⟨H0, D0, D, os, hr, x, hx, hp⟩ => ⟨H0, D0, D, os, hr, x, hx, by
    cases x with
    | ex e => exact hp
    | ok xs =>
      intro v H' D' fp e ⟨h0, p, r1, r3⟩ f
      exact hp v H' D' [] e ⟨rfl, p, _, r1, Same.seq e.dh r3, Paired.ints⟩ .nil⟩
theorem E_some {A : Dt α} {r : M α} (nn : ∀ K H x v, A.rep K H x v → v ≠ .non) (h : ET X G Γ a (dat A) r) : ET X G Γ a (dat (tOpt A)) (r.bind fun x => ok (some x)) := fun w =>
  (h w).weak fun σ H Q ⟨H0, D0, D, os, hr, x, hx, hp⟩ => by
    rcases bind_some hx with ⟨y, rfl, hf⟩ | ⟨e, rfl, rfl⟩
    · cases hf
      exact ⟨H0, D0, D, os, hr, _, rfl, fun v H' D' fp e ⟨h1, h2⟩ f => hp v H' D' fp e ⟨h1, nn _ _ _ _ h2, h2⟩ f⟩
    · exact ⟨H0, D0, D, os, hr, _, rfl, hp⟩
/-- what is known not to be None -/
def unO {α : Type} : Option α → M α
  | some x => ok x
  | none => stuck
theorem E_unO {A : Dt α} {r : M (Option α)} (h : ET X G Γ a (dat (tOpt A)) r) : ET X G Γ a (dat A) (r.bind unO) := fun w =>
  (h w).weak fun σ H Q ⟨H0, D0, D, os, hr, x, hx, hp⟩ => by
    rcases bind_some hx with ⟨y, rfl, hf⟩ | ⟨e, rfl, rfl⟩
    · cases y with
      | none => cases hf
      | some y =>
        cases hf
        exact ⟨H0, D0, D, os, hr, _, rfl, fun v H' D' fp e ⟨h1, h2, h3⟩ f => hp v H' D' fp e ⟨h1, h3⟩ f⟩
    · exact ⟨H0, D0, D, os, hr, _, rfl, hp⟩
/-! ### operations of two -/
def NX2 {α β γ : Type} (g : α → β → M γ) : Prop := ∀ a b e, g a b ≠ exc e
def Op2 (K : Fr) (r2 : R2) (A : Rp α) (B : Rp β) (R : Rp γ) (g : α → β → M γ) : Prop :=
  ∀ (H D : Hp) a b va vb fa fb c Q, Le D H → A.rep K H D fa a va → B.rep K H D fb b vb → g a b = ok c →
    (∀ v H' D' fp, Ext H D H' D' → R.rep K H' D' fp c v → Frs H D' H' fp → Q v H') → r2 va vb H Q
theorem E_op2 {op : Operator} {r2 : R2} {A : Rp α} {B : Rp β} {R : Rp γ} {g : α → β → M γ} {ra : M α} {rb : M β} (ho : OpR X (binaryOp op) r2) (hs : Op2 X.K r2 A B R g) (nx : NX2 g)
    (ha : ET X G Γ a A ra) (hb : ET X G Γ b B rb) : ET X G Γ (.BinOp a op b pos) R (ra.bind fun x => rb.bind fun y => g x y) := fun w =>
  (pe_op ho (ha w) (hb w)).weak fun σ H Q ⟨H0, D0, D, os, hr, x, hx, hp⟩ =>
    seqEE hr hx hp fun i H1 D1 fp v _ hx1 e1 r1 f1 hr1 hp1 => seqEE hr1 hx1 hp1 fun j H2 D2 fp2 v2 _ hx2 e2 r2 f2 hr2 hp2 => by
      cases x with
      | ok c => exact hs H2 D2 i j v v2 fp fp2 c Q hr2.le (A.mono e2.h e2.d r1) r2 hx2 hp2
      | ex e => exact absurd hx2 (nx _ _ _)
/-- comparisons, as values -/
def Cp2 (K : Fr) (r2 : R2) (A : Rp α) (B : Rp β) (g : α → β → Bool) : Prop :=
  ∀ (H D : Hp) a b va vb fa fb Q, Le D H → A.rep K H D fa a va → B.rep K H D fb b vb → Q (.bl (g a b)) H → r2 va vb H Q
theorem E_cmp {op : CmpOp} {r2 : R2} {A : Rp α} {B : Rp β} {g : α → β → Bool} {ra : M α} {rb : M β} (ho : OpR X (compareOp op) r2) (hs : Cp2 X.K r2 A B g) (hm : behindInMarks op b = false)
    (ha : ET X G Γ a A ra) (hb : ET X G Γ b B rb) : ET X G Γ (.Compare a [op] [b] pos) (dat tBool) (ra.bind fun x => rb.bind fun y => ok (g x y)) := fun w =>
  (pe_cmpR ho (ha w) (hb w) hm).weak fun σ H Q ⟨H0, D0, D, os, hr, x, hx, hp⟩ =>
    seqEE hr hx hp fun i H1 D1 fp v _ hx1 e1 r1 f1 hr1 hp1 => seqEE hr1 hx1 hp1 fun j H2 D2 fp2 v2 _ hx2 e2 r2 f2 hr2 hp2 => by
      cases hx2
      exact hs H2 D2 i j v v2 fp fp2 Q hr2.le (A.mono e2.h e2.d r1) r2 (hp2.here hr2 rfl)
theorem B_cmp {op : CmpOp} {r2 : R2} {A : Rp α} {B : Rp β} {g : α → β → Bool} {ra : M α} {rb : M β} (ho : OpR X (compareOp op) r2) (hs : Cp2 X.K r2 A B g) (hm : behindInMarks op b = false)
    (ha : ET X G Γ a A ra) (hb : ET X G Γ b B rb) : BT X G Γ (.Compare a [op] [b] pos) (ra.bind fun x => rb.bind fun y => ok (g x y)) := fun w =>
  (pt_cmpR ho (ha w) (hb w) hm).weak fun σ H Q ⟨H0, D0, D, os, hr, x, hx, hp⟩ =>
    seqEB hr hx hp fun i H1 D1 fp v _ hx1 e1 r1 f1 hr1 hp1 => seqEB hr1 hx1 hp1 fun j H2 D2 fp2 v2 _ hx2 e2 r2 f2 hr2 hp2 => by
      cases hx2
      exact hs H2 D2 i j v v2 fp fp2 _ hr2.le (A.mono e2.h e2.d r1) r2 ⟨_, rfl, hp2 H2 D2 (Ext.refl hr2.le)⟩
theorem E_chain {op op' : CmpOp} {r2 r2' : R2} {A : Rp α} {B : Rp β} {C : Rp γ} {g : α → β → Bool} {g' : β → γ → Bool} {ra : M α} {rb : M β} {rc : M γ} (ho : OpR X (compareOp op) r2) (ho' : OpR X (compareOp op') r2')
    (hs : Cp2 X.K r2 A B g) (hs' : Cp2 X.K r2' B C g') (ha : ET X G Γ a A ra) (hb : ET X G Γ b B rb) (hc : ET X G Γ c C rc) (hm : lastMarks [op, op'] [b, c] = false := by with_unfolding_all rfl) :
    ET X G Γ (.Compare a [op, op'] [b, c] pos) (dat tBool) (ra.bind fun x => rb.bind fun y => if g x y = true then rc.bind fun z => ok (g' y z) else ok false) := fun w =>
  (pe_chain ho ho' (ha w) (hb w) (hc w) hm).weak fun σ H Q ⟨H0, D0, D, os, hr, x, hx, hp⟩ =>
    seqEE hr hx hp fun i H1 D1 fp v _ hx1 e1 r1 f1 hr1 hp1 => seqEE hr1 hx1 hp1 fun j H2 D2 fp2 v2 _ hx2 e2 r2 f2 hr2 hp2 => by
      refine hs H2 D2 i j v v2 fp fp2 _ hr2.le (A.mono e2.h e2.d r1) r2 ⟨_, rfl, ?_⟩
      by_cases z : g i j = true
      · rw [if_pos z] at hx2 ⊢
        exact seqEE hr2 hx2 hp2 fun k H3 D3 fp3 v3 _ hx3 e3 r3 f3 hr3 hp3 => by
          cases hx3
          exact hs' H3 D3 j k v2 v3 fp2 fp3 _ hr3.le (B.mono e3.h e3.d r2) r3 (hp3.here hr3 rfl)
      · rw [if_neg z] at hx2 ⊢
        cases hx2
        have e : g i j = false := by simpa using z
        exact hp2.here hr2 (show V.bl false = V.bl false from rfl)
/-! ### numbers -/
theorem op2I {r2 : R2} {g : Int → Int → M Int} (h : ∀ H i j c Q, g i j = ok c → Q (.int c) H → r2 (.int i) (.int j) H Q) (K : Fr) : Op2 K r2 (dat tInt) (dat tInt) (dat tInt) g := by
  intro H D i j va vb fa fb c Q le ⟨_, z1⟩ ⟨_, z2⟩ hg k
  cases (show va = V.int i from z1)
  cases (show vb = V.int j from z2)
  exact h H i j c Q hg (k (.int c) H D [] (Ext.refl le) ⟨rfl, rfl⟩ .nil)
theorem E_add {ra rb : M Int} (ha : ET X G Γ a (dat tInt) ra) (hb : ET X G Γ b (dat tInt) rb) : ET X G Γ (.BinOp a .Add b pos) (dat tInt) (ra.bind fun x => rb.bind fun y => ok (x + y)) :=
  E_op2 op_add (op2I (fun H i j c Q e q => by cases e; exact ⟨_, _, rfl, rfl, q⟩) _) (fun _ _ _ z => nomatch z) ha hb
theorem E_sub {ra rb : M Int} (ha : ET X G Γ a (dat tInt) ra) (hb : ET X G Γ b (dat tInt) rb) : ET X G Γ (.BinOp a .Sub b pos) (dat tInt) (ra.bind fun x => rb.bind fun y => ok (x - y)) :=
  E_op2 op_sub (op2I (fun H i j c Q e q => by cases e; exact ⟨_, _, rfl, rfl, q⟩) _) (fun _ _ _ z => nomatch z) ha hb
def MulOk (i j : Int) : Prop := (i.natAbs < 2 ^ 64 ∨ j.natAbs < 2 ^ 64) ∨ i.natAbs.log2 + j.natAbs.log2 < 1000000
instance (i j : Int) : Decidable (MulOk i j) := by unfold MulOk; exact inferInstance
def pmul (i j : Int) : M Int := grd (MulOk i j) (ok (i * j))
theorem grd_some {c : Prop} [Decidable c] {m : M α} {x : Rs α} (h : grd c m = some x) : c ∧ m = some x := by
  by_cases hc : c
  · rw [grd_pos hc] at h; exact ⟨hc, h⟩
  · have e : grd c m = none := grd_neg hc m
    rw [e] at h; cases h
theorem grd_ok {c : Prop} [Decidable c] {m : M α} {x : α} (h : grd c m = ok x) : c ∧ m = ok x := grd_some h
theorem grd_nx {c : Prop} [Decidable c] {m : M α} {e : Ex} (h : m ≠ exc e) : grd c m ≠ exc e := fun z => h (grd_some z).2
theorem nat64 {i : Int} (h : i.natAbs < 2 ^ 64) : -(2 ^ 64) < i ∧ i < 2 ^ 64 := by omega
theorem op_mulA : OpR X (binaryOp .Mult) (rI MulOk fun i j => .int (i * j)) := opI fun i j _ _ _ _ _ hc q => mul_int q (by
  rcases hc with (h | h) | h
  · exact CMul.ok (.inl (nat64 h))
  · exact CMul.ok (.inr (nat64 h))
  · exact CMulW.ok h)
theorem E_mul {ra rb : M Int} (ha : ET X G Γ a (dat tInt) ra) (hb : ET X G Γ b (dat tInt) rb) : ET X G Γ (.BinOp a .Mult b pos) (dat tInt) (ra.bind fun x => rb.bind fun y => pmul x y) :=
  E_op2 op_mulA (op2I (fun H i j c Q e q => by obtain ⟨h1, h2⟩ := grd_ok e; cases h2; exact ⟨_, _, rfl, rfl, h1, q⟩) _) (fun _ _ _ => grd_nx (fun z => nomatch z)) ha hb
/-- one factor written and small -/
theorem E_mulL {i : Int} {rb : M Int} (h : i.natAbs < 2 ^ 64) (ha : ET X G Γ a (dat tInt) (ok i)) (hb : ET X G Γ b (dat tInt) rb) : ET X G Γ (.BinOp a .Mult b pos) (dat tInt) (rb.bind fun y => ok (i * y)) :=
  E_eq (E_mul ha hb) (by show (rb.bind fun y => pmul i y) = _; congr 1; funext y; exact grd_pos (.inl (.inl h)) _)
theorem E_mulR {j : Int} {ra : M Int} (h : j.natAbs < 2 ^ 64) (ha : ET X G Γ a (dat tInt) ra) (hb : ET X G Γ b (dat tInt) (ok j)) : ET X G Γ (.BinOp a .Mult b pos) (dat tInt) (ra.bind fun x => ok (x * j)) :=
  E_eq (E_mul ha hb) (by congr 1; funext y; exact grd_pos (.inl (.inr h)) _)
def pmod (i j : Int) : M Int := grd (j ≠ 0) (ok (i.fmod j))
def pdiv (i j : Int) : M Int := grd (j ≠ 0 ∧ j.natAbs.log2 < 9000) (ok (i.fdiv j))
theorem op_fdivA : OpR X (binaryOp .FloorDiv) (rI (fun i j => j ≠ 0 ∧ j.natAbs.log2 < 9000) fun i j => .int (i.fdiv j)) := opI fun i j _ _ _ _ _ hc q =>
  floordiv_int hc.1 q (.inl (PyProof.noPylong_of_log2 hc.2))
theorem E_mod {ra rb : M Int} (ha : ET X G Γ a (dat tInt) ra) (hb : ET X G Γ b (dat tInt) rb) : ET X G Γ (.BinOp a .Mod b pos) (dat tInt) (ra.bind fun x => rb.bind fun y => pmod x y) :=
  E_op2 op_modN (op2I (fun H i j c Q e q => by obtain ⟨h1, h2⟩ := grd_ok e; cases h2; exact ⟨_, _, rfl, rfl, h1, q⟩) _) (fun _ _ _ => grd_nx (fun z => nomatch z)) ha hb
theorem E_div {ra rb : M Int} (ha : ET X G Γ a (dat tInt) ra) (hb : ET X G Γ b (dat tInt) rb) : ET X G Γ (.BinOp a .FloorDiv b pos) (dat tInt) (ra.bind fun x => rb.bind fun y => pdiv x y) :=
  E_op2 op_fdivA (op2I (fun H i j c Q e q => by obtain ⟨h1, h2⟩ := grd_ok e; cases h2; exact ⟨_, _, rfl, rfl, h1, q⟩) _) (fun _ _ _ => grd_nx (fun z => nomatch z)) ha hb
theorem E_modR {j : Int} {ra : M Int} (h : 0 < j) (ha : ET X G Γ a (dat tInt) ra) (hb : ET X G Γ b (dat tInt) (ok j)) : ET X G Γ (.BinOp a .Mod b pos) (dat tInt) (ra.bind fun x => ok (x % j)) :=
  E_eq (E_mod ha hb) (by congr 1; funext y; show grd _ _ = _; rw [grd_pos (by omega : j ≠ 0), Int.fmod_eq_emod_of_nonneg _ (by omega)])
instance (i j : Int) : Decidable (CPow i j) := by unfold CPow; exact inferInstance
def ppow (i j : Int) : M Int := grd (CPow i j) (ok (i ^ j.toNat))
theorem E_pow {ra rb : M Int} (ha : ET X G Γ a (dat tInt) ra) (hb : ET X G Γ b (dat tInt) rb) : ET X G Γ (.BinOp a .Pow b pos) (dat tInt) (ra.bind fun x => rb.bind fun y => ppow x y) :=
  E_op2 op_pow (op2I (fun H i j c Q e q => by obtain ⟨h1, h2⟩ := grd_ok e; cases h2; exact ⟨_, _, rfl, rfl, h1, q⟩) _) (fun _ _ _ => grd_nx (fun z => nomatch z)) ha hb
theorem E_powC {i : Int} (n : Nat) (h : i.natAbs < 2 ^ 64) (hn : n ≤ 1000000) (ha : ET X G Γ a (dat tInt) (ok i)) (hb : ET X G Γ b (dat tInt) (ok (n : Int))) : ET X G Γ (.BinOp a .Pow b pos) (dat tInt) (ok (i ^ n)) :=
  E_eq (E_pow ha hb) (by show grd _ _ = _; rw [grd_pos (show CPow i n from ⟨by omega, by omega, h⟩), Int.toNat_natCast])
theorem E_neg {ra : M Int} (ha : ET X G Γ a (dat tInt) ra) : ET X G Γ (.UnaryOp .USub a pos) (dat tInt) (ra.bind fun x => ok (-x)) := fun w =>
  (pe_un un_neg (ha w)).weak fun σ H Q ⟨H0, D0, D, os, hr, x, hx, hp⟩ =>
    seqEE hr hx hp fun i H1 D1 fp v _ hx1 e1 r1 f1 hr1 hp1 => by
      cases hx1
      obtain ⟨_, rfl⟩ := r1
      exact ⟨i, rfl, hp1.here hr1 rfl⟩
theorem cp2I {r2 : R2} {g : Int → Int → Bool} (h : ∀ H i j Q, Q (.bl (g i j)) H → r2 (.int i) (.int j) H Q) (K : Fr) : Cp2 K r2 (dat tInt) (dat tInt) g := by
  intro H D i j va vb fa fb Q le ⟨_, z1⟩ ⟨_, z2⟩ k
  cases (show va = V.int i from z1)
  cases (show vb = V.int j from z2)
  exact h H i j Q k
theorem cp_lt (K : Fr) : Cp2 K (rI0 fun i j => .bl (decide (i < j))) (dat tInt) (dat tInt) fun i j => decide (i < j) := cp2I (fun H i j Q q => ⟨i, j, rfl, rfl, q⟩) K
theorem cp_le (K : Fr) : Cp2 K (rI0 fun i j => .bl (decide (i ≤ j))) (dat tInt) (dat tInt) fun i j => decide (i ≤ j) := cp2I (fun H i j Q q => ⟨i, j, rfl, rfl, q⟩) K
theorem cp_gt (K : Fr) : Cp2 K (rI0 fun i j => .bl (decide (j < i))) (dat tInt) (dat tInt) fun i j => decide (j < i) := cp2I (fun H i j Q q => ⟨i, j, rfl, rfl, q⟩) K
theorem cp_ge (K : Fr) : Cp2 K (rI0 fun i j => .bl (decide (j ≤ i))) (dat tInt) (dat tInt) fun i j => decide (j ≤ i) := cp2I (fun H i j Q q => ⟨i, j, rfl, rfl, q⟩) K
theorem cp_eq (K : Fr) : Cp2 K rEq (dat tInt) (dat tInt) fun i j => decide (i = j) := cp2I (fun H i j Q q => ⟨rfl, by
  have : decide (V.int i = V.int j) = decide (i = j) := by rw [dec_int]; exact Bool.beq_eq_decide_eq _ _
  rw [this]; exact q⟩) K
theorem cp_ne (K : Fr) : Cp2 K rNe (dat tInt) (dat tInt) fun i j => !decide (i = j) := cp2I (fun H i j Q q => ⟨rfl, by
  have : decide (V.int i = V.int j) = decide (i = j) := by rw [dec_int]; exact Bool.beq_eq_decide_eq _ _
  rw [this]; exact q⟩) K
/-! ### tests -/
theorem B_val {ra : M Bool} (ha : ET X G Γ a (dat tBool) ra) (he : ∀ whole, isTrue a X.env whole = (do let v ← whole; standAt a.pos; holding [v] (truthy v)) := by intro _; rfl) : BT X G Γ a ra := fun w =>
  (pt_val (ha w) he).weak fun σ H Q ⟨H0, D0, D, os, hr, x, hx, hp⟩ => ⟨H0, D0, D, os, hr, x, hx, by
    cases x with
    | ex e => exact hp
    | ok b =>
      intro v H' D' fp e ⟨h1, h2⟩ f
      exact ⟨b, h2, hp H' D' e⟩⟩
theorem B_eq {r r' : M Bool} (h : BT X G Γ a r) (e : r = r') : BT X G Γ a r' := e ▸ h
theorem B_not {ra : M Bool} (ha : BT X G Γ a ra) : BT X G Γ (.UnaryOp .Not a pos) (ra.bind fun x => ok (!x)) := fun w =>
  (pt_not (ha w)).weak fun σ H Q ⟨H0, D0, D, os, hr, x, hx, hp⟩ =>
    seqBB hr hx hp fun i H1 D1 _ hx1 e1 hr1 hp1 => by
      cases hx1
      exact hp1 H1 D1 (Ext.refl hr1.le)
variable {rest : List Expr}
theorem W_and1 {ra : M Bool} (ha : BT X G Γ a ra) : BW X G Γ (.BoolOp .And [a] pos) ra := fun w => pw_and1 (ha w)
theorem W_or1 {ra : M Bool} (ha : BT X G Γ a ra) : BW X G Γ (.BoolOp .Or [a] pos) ra := fun w => pw_or1 (ha w)
theorem W_and {ra rb : M Bool} (ha : BT X G Γ a ra) (hb : BW X G Γ (.BoolOp .And (b :: rest) pos) rb) : BW X G Γ (.BoolOp .And (a :: b :: rest) pos) (ra.bind fun x => if x = true then rb else ok false) := fun w =>
  (pw_and (ha w) (hb w)).weak fun σ H Q ⟨H0, D0, D, os, hr, x, hx, hp⟩ =>
    seqBB hr hx hp fun i H1 D1 _ hx1 e1 hr1 hp1 => by
      cases i with
      | true => exact ⟨H0, D0, D1, os, hr1, x, hx1, hp1⟩
      | false => cases hx1; exact hp1 H1 D1 (Ext.refl hr1.le)
theorem W_or {ra rb : M Bool} (ha : BT X G Γ a ra) (hb : BW X G Γ (.BoolOp .Or (b :: rest) pos) rb) : BW X G Γ (.BoolOp .Or (a :: b :: rest) pos) (ra.bind fun x => if x = true then ok true else rb) := fun w =>
  (pw_or (ha w) (hb w)).weak fun σ H Q ⟨H0, D0, D, os, hr, x, hx, hp⟩ =>
    seqBB hr hx hp fun i H1 D1 _ hx1 e1 hr1 hp1 => by
      cases i with
      | false => exact ⟨H0, D0, D1, os, hr1, x, hx1, hp1⟩
      | true => cases hx1; exact hp1 H1 D1 (Ext.refl hr1.le)
theorem B_w {ra : M Bool} (ha : BW X G Γ a ra) : BT X G Γ a ra := fun w => (ha w).pt
/-- and, or as values -/
theorem E_one {op} {ra : M Bool} (ha : ET X G Γ a (dat tBool) ra) : ET X G Γ (.BoolOp op [a] pos) (dat tBool) ra := fun w => pe_one (ha w)
theorem E_and {ra rb : M Bool} (ha : ET X G Γ a (dat tBool) ra) (hb : ET X G Γ (.BoolOp .And (b :: rest) pos) (dat tBool) rb) : ET X G Γ (.BoolOp .And (a :: b :: rest) pos) (dat tBool) (ra.bind fun x => if x = true then rb else ok false) := fun w =>
  (pe_and (ha w) (hb w)).weak fun σ H Q ⟨H0, D0, D, os, hr, x, hx, hp⟩ =>
    seqEE hr hx hp fun i H1 D1 fp v _ hx1 e1 r1 f1 hr1 hp1 => by
      refine ⟨i, r1.2, ?_⟩
      cases i with
      | true => exact ⟨H0, D0, D1, os, hr1, x, hx1, hp1⟩
      | false => cases hx1; exact hp1.here hr1 (show V.bl false = V.bl false from rfl)
theorem E_or {ra rb : M Bool} (ha : ET X G Γ a (dat tBool) ra) (hb : ET X G Γ (.BoolOp .Or (b :: rest) pos) (dat tBool) rb) : ET X G Γ (.BoolOp .Or (a :: b :: rest) pos) (dat tBool) (ra.bind fun x => if x = true then ok true else rb) := fun w =>
  (pe_or (ha w) (hb w)).weak fun σ H Q ⟨H0, D0, D, os, hr, x, hx, hp⟩ =>
    seqEE hr hx hp fun i H1 D1 fp v _ hx1 e1 r1 f1 hr1 hp1 => by
      refine ⟨i, r1.2, ?_⟩
      cases i with
      | false => exact ⟨H0, D0, D1, os, hr1, x, hx1, hp1⟩
      | true => cases hx1; exact hp1.here hr1 (show V.bl true = V.bl true from rfl)
theorem E_not {ra : M Bool} (ha : ET X G Γ a (dat tBool) ra) : ET X G Γ (.UnaryOp .Not a pos) (dat tBool) (ra.bind fun x => ok (!x)) := fun w =>
  (pe_not (ha w)).weak fun σ H Q ⟨H0, D0, D, os, hr, x, hx, hp⟩ =>
    seqEE hr hx hp fun i H1 D1 fp v _ hx1 e1 r1 f1 hr1 hp1 => by
      cases hx1
      exact ⟨i, r1.2, hp1.here hr1 rfl⟩
end
end T
set_option maxRecDepth 100000
set_option maxHeartbeats 4000000
namespace T
open PySem PySem.Spec PyProof.Rows L2
/-! ### arguments -/
inductive Ap : Type → Type 1 where
  | nil : Ap Unit
  | cons {α τ : Type} (A : Dt α) (B : Ap τ) : Ap (α × τ)
def Ap.rep (K : Fr) (D : Hp) : {τ : Type} → Ap τ → τ → List L2.V → Prop
  | _, .nil, _, vs => vs = []
  | _, .cons A B, t, vs => ∃ v r, vs = v :: r ∧ A.rep K D t.1 v ∧ Ap.rep K D B t.2 r
theorem Ap.rep_cons {K : Fr} {D : Hp} {α τ : Type} {A : Dt α} {B : Ap τ} {t : α × τ} {vs : List L2.V} : Ap.rep K D (.cons A B) t vs ↔ ∃ v r, vs = v :: r ∧ A.rep K D t.1 v ∧ Ap.rep K D B t.2 r := Iff.rfl
def Ap.len : {τ : Type} → Ap τ → Nat
  | _, .nil => 0
  | _, .cons A B => B.len + 1
def Ap.view : {τ : Type} → Nat → Ap τ → τ → Vw
  | _, _, .nil, _ => []
  | _, i, .cons A B, t => eD i A t.1 :: Ap.view (i + 1) B t.2
theorem Ap.mono {K : Fr} {H H' : Hp} (e : Le H H') : ∀ {τ : Type} {B : Ap τ} {t : τ} {vs : List L2.V}, B.rep K H t vs → B.rep K H' t vs
  | _, .nil, _, _, h => h
  | _, .cons A B, t, vs, h => by
    obtain ⟨v, r, h1, h2, h3⟩ := Ap.rep_cons.mp h
    exact Ap.rep_cons.mpr ⟨v, r, h1, A.mono e h2, Ap.mono e h3⟩
theorem Ap.length {K : Fr} {H : Hp} : ∀ {τ : Type} {B : Ap τ} {t : τ} {vs : List L2.V}, B.rep K H t vs → vs.length = B.len
  | _, .nil, _, _, h => by cases (show _ = [] from h); rfl
  | _, .cons A B, t, vs, h => by
    obtain ⟨v, r, h1, h2, h3⟩ := Ap.rep_cons.mp h
    subst h1; exact congrArg (· + 1) (Ap.length h3)
theorem Ap.hold {K : Fr} {H D : Hp} {more : List (Option L2.V)} : ∀ {τ : Type} {B : Ap τ} {t : τ} {vs : List L2.V} (pre : List (Option L2.V)), B.rep K D t vs → Hold K H D (pre ++ vs.map some ++ more) (B.view pre.length t) []
  | _, .nil, _, _, _, _ => rfl
  | _, .cons A B, t, vs, pre, h => by
    obtain ⟨v, r, h1, h2, h3⟩ := Ap.rep_cons.mp h
    subst h1
    refine ⟨[], [], rfl, ⟨v, ?_, rfl, h2⟩, ?_⟩
    · show (pre ++ (some v :: r.map some) ++ more)[pre.length]? = _
      simp
    · have := Ap.hold (K := K) (H := H) (D := D) (more := more) (pre ++ [some v]) h3
      rw [List.length_append] at this
      simpa using this
def aPost {τ γ : Type} (K : Fr) (B : Ap τ) (k : τ → M γ) (H D : Hp) (x : Rs γ) (P : Hp → Hp → Rs γ → Prop) (Q : List L2.V → Hp → Prop) : Prop :=
  ∀ t vs H' D', k t = some x → Ext H D H' D' → B.rep K D' t vs → P H' D' x → Q vs H'
/-- arguments, then k -/
def tAr {τ γ : Type} (K : Fr) (mg : Str → Option Value) (G : Ctx) (Γ : Vw) (B : Ap τ) (k : τ → M γ) (r : M γ) : TA := fun σ H Q =>
  ∃ H0 D0 D os x, ∃ P : Hp → Hp → Rs γ → Prop, Rel K H0 D0 Γ σ H D os ∧ r = some x ∧ P H D x ∧ (∀ H1 D1, Ext H D H1 D1 → ∀ H2 D2, Ext H1 D1 H2 D2 → P H1 D1 x → P H2 D2 x) ∧
    (∀ e, x = .ex e → ∀ c d H' D' os', Rel K H0 D0 G.Vx σ H' D' os' → XRep K mg D' e c d → G.W c d σ H') ∧ aPost K B k H D x P Q
def AR (X : Cx) (G : Ctx) (Γ : Vw) (es : List Expr) {τ γ : Type} (B : Ap τ) (k : τ → M γ) (r : M γ) : Prop := Wf X G → PA X es (tAr X.K X.mg G Γ B k r)
section
variable {X : Cx} {G : Ctx} {Γ : Vw} {α β γ δ τ ρ : Type} {a b c : Expr} {pos : Pos} {es : List Expr}
theorem A_nil {k : Unit → M γ} : AR X G Γ [] .nil k (k ()) := fun w =>
  pa_nil.weak fun σ H Q ⟨H0, D0, D, os, x, P, hr, hx, hp, hg, he, q⟩ => q () [] H D hx (Ext.refl hr.le) rfl hp
theorem A_cons {A : Dt α} {B : Ap τ} {k : α × τ → M γ} {ra : M α} {rr : α → M γ} (ha : ET X G Γ a (dat A) ra) (hb : ∀ x, AR X G Γ es B (fun t => k (x, t)) (rr x))
    (hs : starEach (a :: es) X.env = (false, eval a X.env) :: starEach es X.env := by rfl) : AR X G Γ (a :: es) (.cons A B) k (ra.bind rr) := fun w => by
  have hb' : PA X es (fun σ H Q => ∃ x, tAr X.K X.mg G Γ B (fun t => k (x, t)) (rr x) σ H Q) := ⟨fun pos pins s σ H Q I ⟨x, h⟩ => (hb x w).run pos pins s σ H Q I h⟩
  refine (pa_cons (ha w) hb' hs).weak fun σ H Q ⟨H0, D0, D, os, x, P, hr, hx, hp, hg, he, q⟩ => ?_
  rcases bind_some hx with ⟨y, rfl, hf⟩ | ⟨e, rfl, rfl⟩
  · refine ⟨H0, D0, D, os, hr, _, rfl, fun v H1 D1 fp e1 r1 f1 => ⟨y, H0, D0, D1, os, x, P, hr.grow e1, hf, hg _ _ (Ext.refl hr.le) _ _ e1 hp, fun H2 D2 e2 => hg H2 D2 (e1.trans e2), he, fun t vs H' D' hk e2 ht p2 => ?_⟩⟩
    exact q (y, t) (v :: vs) H' D' hk (e1.trans e2) ⟨v, vs, rfl, A.mono e2.d r1.2, ht⟩ p2
  · exact ⟨H0, D0, D, os, hr, _, rfl, he _ rfl⟩
/-! ### calls of defs -/
def spT (K : Fr) (mg : Str → Option Value) (B : Ap τ) (R : Rp ρ) (m : τ → M ρ) : Sp := fun vs H Q E => ∃ D t, Le D H ∧ B.rep K D t vs ∧ ∃ x, m t = some x ∧ match x with
  | .ok r => ∀ v H' D' fp, Ext H D H' D' → R.rep K H' D' fp r v → Frs H D' H' fp → Q v H'
  | .ex e => ∀ c d H' D', Ext H D H' D' → XRep K mg D' e c d → E c d H'
structure Fx (P : Program) (w : World) (K : Fr) (mg : Str → Option Value) (base : Heap) (x : Str) (k : Nat) (B : Ap τ) (R : Rp ρ) (m : τ → M ρ) : Prop where
  ex : ∃ f fd ps, FnOk P w K mg base (L2.CX P w) k f fd ps (spT K mg B R m) ∧ mg x = some (.ref f) ∧ PySem.W.keepIn K (.ref f) = true ∧ Binds K fd ps []
theorem E_call {x : Str} {k : Nat} {B : Ap τ} {R : Rp ρ} {m : τ → M ρ} {r : M ρ} {p : Pos} (F : Fx X.prog X.w X.K X.mg X.base x k B R m) (hk : k ≤ G.k) (ha : AR X G Γ (a :: es) B m r) (is : List Nat) (hv : pick is Γ = G.Vx) (hc : G.c = true := by rfl) (hg : Gl X x := by rfl)
    (hdb : (x == ("__debug__" : Str)) = false := by decide) (he : starEach (a :: es) X.env = (false, eval a X.env) :: starEach es X.env := by rfl) (hpl : (backTo pos (starEach es X.env)).any (·.1) = false := by rfl) :
    ET X G Γ (.Call (.Name x p) (a :: es) [] pos) R r := fun w => by
  obtain ⟨f, fd, ps, F, hm, hkp, hb⟩ := F.ex
  refine (pe_callS F ((w.room hc).mono hk) hg hm hkp hb (fun σ => passAt w.tk σ) (ha w) hdb he hpl).weak fun σ H Q ⟨H0, D0, D, os, hr, x, hx, hp⟩ => ?_
  refine ⟨H0, D0, D, os, x, fun H1 D1 x => ePost X.K X.mg G H0 D0 σ H1 D1 R Q x, hr, hx, hp, fun _ _ _ _ _ e2 h => h.grow e2, fun e z => by subst z; exact hp, fun t vs H1 D1 hk e1 ht hp1 => ?_⟩
  refine ⟨D1, t, e1.dh, ht, x, hk, ?_⟩
  cases x with
  | ok y => exact hp1
  | ex e =>
    intro c d H' D' e2 hxr
    obtain ⟨os', q⟩ := ((hr.grow e1).grow e2).pick is
    rw [hv] at q
    exact hp1 c d H' D' os' q hxr
theorem E_call0 {x : Str} {k : Nat} {R : Rp ρ} {m : Unit → M ρ} {p : Pos} (F : Fx X.prog X.w X.K X.mg X.base x k .nil R m) (hk : k ≤ G.k) (is : List Nat) (hv : pick is Γ = G.Vx) (hc : G.c = true := by rfl) (hg : Gl X x := by rfl)
    (hdb : (x == ("__debug__" : Str)) = false := by decide) : ET X G Γ (.Call (.Name x p) [] [] pos) R (m ()) := fun w => by
  obtain ⟨f, fd, ps, F, hm, hkp, hb⟩ := F.ex
  refine ⟨fun pins s σ H Q I ⟨H0, D0, D, os, hr, x, hx, hp⟩ => ?_⟩
  refine wpAny_Call_Name_kw (ld_glob I hg hm ?_ hdb)
  refine PySem.W.callWith_K0 I.kIn hkp (run_fnS (E := WE G.W) (us := []) F ((w.room hc).mono hk) hb (passAt w.tk σ) I .nil ⟨D, (), hr.le, rfl, x, hx, ?_⟩)
  cases x with
  | ok y => exact hp
  | ex e =>
    intro c d H' D' e2 hxr
    obtain ⟨os', q⟩ := (hr.grow e2).pick is
    rw [hv] at q
    exact hp c d H' D' os' q hxr
/-! ### built-ins with one or two arguments -/
def Cb1 (K : Fr) (r : List L2.V → Hp → VK → Prop) (A : Rp α) (R : Rp β) (g : α → M β) : Prop :=
  ∀ (H D : Hp) a va fa c Q, Le D H → A.rep K H D fa a va → g a = ok c → (∀ v H' D' fp, Ext H D H' D' → R.rep K H' D' fp c v → Frs H D' H' fp → Q v H') → r [va] H Q
def NX1 {α β : Type} (g : α → M β) : Prop := ∀ a e, g a ≠ exc e
theorem cb_core {A : Rp α} {R : Rp β} {g : α → M β} {ra : M α} {rr : List L2.V → Hp → VK → Prop} (hs : Cb1 X.K rr A R g) (nx : NX1 g) (σ : L2.St) (H : Hp) (Q : VK) (h : tE X.K X.mg G Γ R (ra.bind g) σ H Q) :
    tCB rr (tCons (tE X.K X.mg G Γ A ra) tNil) σ H Q := by
  obtain ⟨H0, D0, D, os, hr, x, hx, hp⟩ := h
  exact seqEE hr hx hp fun i H1 D1 fp v _ hx1 e1 r1 f1 hr1 hp1 => by
    cases x with
    | ok c => exact hs H1 D1 i v fp c Q hr1.le r1 hx1 hp1
    | ex e => exact absurd hx1 (nx _ _)
theorem E_bi1 {id : String} {x : Str} {rr : List L2.V → Hp → VK → Prop} {A : Rp α} {R : Rp β} {g : α → M β} {ra : M α} {p : Pos} (hc : CallR X (.builtin id) rr) (hs : Cb1 X.K rr A R g) (nx : NX1 g) (hm : X.mg x = none) (hv : bootBuiltins x = some (.builtin id))
    (ha : ET X G Γ a A ra) (hg : Gl X x := by rfl) (hn : x ≠ "__name__" := by decide) (hdb : (x == ("__debug__" : Str)) = false := by decide) (hs1 : starEach [a] X.env = [(false, eval a X.env)] := by rfl) (hpl : (backTo pos (starEach [] X.env)).any (·.1) = false := by rfl) :
    ET X G Γ (.Call (.Name x p) [a] [] pos) R (ra.bind g) := fun w =>
  (pe_callB hc hg hm hv (pa_cons (ha w) pa_nil hs1) hn hdb hs1 hpl).weak fun σ H Q h => cb_core hs nx σ H Q h
theorem E_ty1 {id : String} {x : Str} {rr : List L2.V → Hp → VK → Prop} {A : Rp α} {R : Rp β} {g : α → M β} {ra : M α} {p : Pos} (hc : CallR X (.type id) rr) (hs : Cb1 X.K rr A R g) (nx : NX1 g) (hm : X.mg x = none) (hv : bootBuiltins x = some (.type id))
    (ha : ET X G Γ a A ra) (hg : Gl X x := by rfl) (hn : x ≠ "__name__" := by decide) (hdb : (x == ("__debug__" : Str)) = false := by decide) (hs1 : starEach [a] X.env = [(false, eval a X.env)] := by rfl) (hpl : (backTo pos (starEach [] X.env)).any (·.1) = false := by rfl) :
    ET X G Γ (.Call (.Name x p) [a] [] pos) R (ra.bind g) := fun w =>
  (pe_callTy hc hg hm hv (pa_cons (ha w) pa_nil hs1) hn hdb hs1 hpl).weak fun σ H Q h => cb_core hs nx σ H Q h
def Cb2 (K : Fr) (r : List L2.V → Hp → VK → Prop) (A : Rp α) (B : Rp β) (R : Rp γ) (g : α → β → M γ) : Prop :=
  ∀ (H D : Hp) a b va vb fa fb c Q, Le D H → A.rep K H D fa a va → B.rep K H D fb b vb → g a b = ok c → (∀ v H' D' fp, Ext H D H' D' → R.rep K H' D' fp c v → Frs H D' H' fp → Q v H') → r [va, vb] H Q
theorem E_bi2 {id : String} {x : Str} {rr : List L2.V → Hp → VK → Prop} {A : Rp α} {B : Rp β} {R : Rp γ} {g : α → β → M γ} {ra : M α} {rb : M β} {p : Pos} (hc : CallR X (.builtin id) rr) (hs : Cb2 X.K rr A B R g) (nx : NX2 g) (hm : X.mg x = none) (hv : bootBuiltins x = some (.builtin id))
    (ha : ET X G Γ a A ra) (hb : ET X G Γ b B rb) (hg : Gl X x := by rfl) (hn : x ≠ "__name__" := by decide) (hdb : (x == ("__debug__" : Str)) = false := by decide)
    (hs1 : starEach [a, b] X.env = (false, eval a X.env) :: starEach [b] X.env := by rfl) (hs2 : starEach [b] X.env = [(false, eval b X.env)] := by rfl) (hpl : (backTo pos (starEach [b] X.env)).any (·.1) = false := by rfl) :
    ET X G Γ (.Call (.Name x p) [a, b] [] pos) R (ra.bind fun y => rb.bind fun z => g y z) := fun w =>
  (pe_callB hc hg hm hv (pa_cons (ha w) (pa_cons (hb w) pa_nil hs2) hs1) hn hdb hs1 hpl).weak fun σ H Q ⟨H0, D0, D, os, hr, x, hx, hp⟩ =>
    seqEE hr hx hp fun i H1 D1 fp v _ hx1 e1 r1 f1 hr1 hp1 => seqEE hr1 hx1 hp1 fun j H2 D2 fp2 v2 _ hx2 e2 r2 f2 hr2 hp2 => by
      cases x with
      | ok c => exact hs H2 D2 i j v v2 fp fp2 c Q hr2.le (A.mono e2.h e2.d r1) r2 hx2 hp2
      | ex e => exact absurd hx2 (nx _ _ _)
theorem nxok {g : α → β} : NX1 fun a => ok (g a) := fun _ _ z => nomatch z
theorem nxok2 {g : α → β → γ} : NX2 fun a b => ok (g a b) := fun _ _ _ z => nomatch z
theorem E_abs {ra : M Int} {p : Pos} (hm : X.mg "abs" = none) (ha : ET X G Γ a (dat tInt) ra) (hg : Gl X "abs" := by rfl) (hs1 : starEach [a] X.env = [(false, eval a X.env)] := by rfl) :
    ET X G Γ (.Call (.Name "abs" p) [a] [] pos) (dat tInt) (ra.bind fun x => ok (x.natAbs : Int)) :=
  E_bi1 (A := dat tInt) (R := dat tInt) call_abs (fun H D a va fa c Q le ⟨_, z⟩ hg k => by
    cases hg
    cases (show va = V.int a from z)
    refine ⟨a, rfl, k _ H D [] (Ext.refl le) ⟨rfl, show V.int _ = V.int _ from ?_⟩ .nil⟩
    congr 1
    split <;> omega) nxok hm (by decide +kernel) ha hg (by decide) (by decide) hs1 rfl
def b2n (b : Bool) : Int := if b = true then 1 else 0
theorem E_intB {ra : M Bool} {p : Pos} (hm : X.mg "int" = none) (ha : ET X G Γ a (dat tBool) ra) (hg : Gl X "int" := by rfl) (hs1 : starEach [a] X.env = [(false, eval a X.env)] := by rfl) :
    ET X G Γ (.Call (.Name "int" p) [a] [] pos) (dat tInt) (ra.bind fun x => ok (b2n x)) :=
  E_ty1 (A := dat tBool) (R := dat tInt) call_int1 (fun H D a va fa c Q le ⟨_, z⟩ hg k => by
    cases hg
    cases (show va = V.bl a from z)
    exact .inr ⟨a, rfl, k _ H D [] (Ext.refl le) ⟨rfl, rfl⟩ .nil⟩) nxok hm (by decide +kernel) ha hg (by decide) (by decide) hs1 rfl
theorem cb_len {A : Dt α} : Cb1 X.K (fun xs H Q => ∃ p ys, xs = [.ref p] ∧ (SqL X.K H p ys ∨ SqT X.K H p ys) ∧ Q (.int ys.length) H) (bor A) (dat tInt) fun xs : List α => ok (xs.length : Int) := fun H D a va fa c Q le ⟨_, p, vs, z, h1, h2⟩ hg k => by
    cases hg
    refine ⟨p, vs, by rw [z], .inl h1, k _ H D [] (Ext.refl le) ⟨rfl, show V.int _ = V.int _ from by rw [h2.length]⟩ .nil⟩
theorem E_lenL {A : Dt α} {ra : M (List α)} {p : Pos} (hm : X.mg "len" = none) (ha : ET X G Γ a (bor A) ra) (hg : Gl X "len" := by rfl) (hs1 : starEach [a] X.env = [(false, eval a X.env)] := by rfl) :
    ET X G Γ (.Call (.Name "len" p) [a] [] pos) (dat tInt) (ra.bind fun x => ok (x.length : Int)) := E_bi1 call_len_seq cb_len nxok hm PySem.boot_len ha hg (by decide) (by decide) hs1 rfl
theorem E_lenT {A : Dt α} {ra : M (List α)} {p : Pos} (hm : X.mg "len" = none) (ha : ET X G Γ a (dat (tRow A)) ra) (hg : Gl X "len" := by rfl) (hs1 : starEach [a] X.env = [(false, eval a X.env)] := by rfl) :
    ET X G Γ (.Call (.Name "len" p) [a] [] pos) (dat tInt) (ra.bind fun x => ok (x.length : Int)) := E_bi1 (A := dat (tRow A)) (R := dat tInt) call_len_seq (fun H D a va fa c Q le ⟨_, p, vs, z, h1, h2⟩ hg k => by
    cases hg
    refine ⟨p, vs, by rw [z], .inr (SqT.mono le h1), k _ H D [] (Ext.refl le) ⟨rfl, show V.int _ = V.int _ from by rw [h2.length]⟩ .nil⟩) nxok hm PySem.boot_len ha hg (by decide) (by decide) hs1 rfl
/-! ### subscripts -/
def pget {α : Type} (xs : List α) (i : Int) : M α := match atI xs i with
  | some x => ok x
  | none => stuck
theorem pget_ok {xs : List α} {i : Int} {x : α} (h : pget xs i = ok x) : atI xs i = some x := by
  unfold pget at h
  cases e : atI xs i with
  | none => rw [e] at h; cases h
  | some y => rw [e] at h; cases h; rfl
theorem pget_nx {α : Type} : NX2 (pget (α := α)) := fun xs i e h => by
  unfold pget at h
  cases z : atI xs i with
  | none => rw [z] at h; cases h
  | some y => rw [z] at h; cases h
theorem atI_paired {F : α → L2.V → Prop} {xs : List α} {vs : List L2.V} {i : Int} {x : α} (h : Paired F xs vs) (e : atI xs i = some x) : ∃ v, atI vs i = some v ∧ F x v := by
  unfold atI at e ⊢
  rw [h.length] at e
  cases q : ixN vs.length i with
  | none => rw [q] at e; cases e
  | some j =>
    rw [q] at e
    have e' : xs[j]? = some x := e
    show ∃ v, vs[j]? = some v ∧ F x v
    clear e q
    induction h generalizing j with
    | nil => simp at e'
    | cons r t ih =>
      cases j with
      | zero => simp at e'; subst e'; exact ⟨_, by simp, r⟩
      | succ j => simpa using ih j (by simpa using e')
theorem E_ix {r2 : R2} {A : Rp α} {B : Rp β} {R : Rp γ} {g : α → β → M γ} {ra : M α} {rb : M β} (hi : IxR X r2) (hs : Op2 X.K r2 A B R g) (nx : NX2 g) (ha : ET X G Γ a A ra) (hb : ET X G Γ b B rb) (hp : PlainIx b) : ET X G Γ (.Subscript a b pos) R (ra.bind fun x => rb.bind fun y => g x y) := fun w =>
  (pe_ix hi (ha w) (hb w) hp).weak fun σ H Q ⟨H0, D0, D, os, hr, x, hx, hp⟩ =>
    seqEE hr hx hp fun i H1 D1 fp v _ hx1 e1 r1 f1 hr1 hp1 => seqEE hr1 hx1 hp1 fun j H2 D2 fp2 v2 _ hx2 e2 r2 f2 hr2 hp2 => by
      cases x with
      | ok c => exact hs H2 D2 i j v v2 fp fp2 c Q hr2.le (A.mono e2.h e2.d r1) r2 hx2 hp2
      | ex e => exact absurd hx2 (nx _ _ _)
theorem E_ixL {A : Dt α} {ra : M (List α)} {rb : M Int} (ha : ET X G Γ a (bor A) ra) (hb : ET X G Γ b (dat tInt) rb) (hp : PlainIx b := by intro _ _; rfl) : ET X G Γ (.Subscript a b pos) (dat A) (ra.bind fun x => rb.bind fun y => pget x y) :=
  E_ix (A := bor A) (B := dat tInt) (R := dat A) ix_list (fun H D xs i va vb fa fb c Q le ⟨_, p, vs, z, h1, h2⟩ ⟨_, z2⟩ hg k => by
    obtain ⟨v, q1, q2⟩ := atI_paired h2 (pget_ok hg)
    exact ⟨p, vs, i, v, z, z2, h1, q1, k v H D [] (Ext.refl le) ⟨rfl, q2⟩ .nil⟩) pget_nx ha hb hp
theorem E_ixT {A : Dt α} {ra : M (List α)} {rb : M Int} (ha : ET X G Γ a (dat (tRow A)) ra) (hb : ET X G Γ b (dat tInt) rb) (hp : PlainIx b := by intro _ _; rfl) : ET X G Γ (.Subscript a b pos) (dat A) (ra.bind fun x => rb.bind fun y => pget x y) :=
  E_ix (A := dat (tRow A)) (B := dat tInt) (R := dat A) ix_tup (fun H D xs i va vb fa fb c Q le ⟨_, p, vs, z, h1, h2⟩ ⟨_, z2⟩ hg k => by
    obtain ⟨v, q1, q2⟩ := atI_paired h2 (pget_ok hg)
    exact ⟨p, vs, i, v, z, z2, SqT.mono le h1, q1, k v H D [] (Ext.refl le) ⟨rfl, q2⟩ .nil⟩) pget_nx ha hb hp
/-- a record's places -/
theorem E_fst {A : Dt α} {B : Dt β} {ra : M (α × β)} (ha : ET X G Γ a (dat (tRec2 A B)) ra) (hb : ET X G Γ b (dat tInt) (ok 0)) (hp : PlainIx b := by intro _ _; rfl) : ET X G Γ (.Subscript a b pos) (dat A) (ra.bind fun x => ok x.1) :=
  E_ix (A := dat (tRec2 A B)) (R := dat A) (g := fun x (_ : Int) => ok x.1) (B := ⟨fun _ _ _ fp x v => fp = [] ∧ x = 0 ∧ v = .int 0, fun _ _ h => h⟩) ix_tup (fun H D xs i va vb fa fb c Q le ⟨_, p, v1, v2, z, h1, h2, h3⟩ ⟨_, _, z2⟩ hg k => by
    cases hg
    exact ⟨p, _, 0, v1, z, z2, SqT.mono le h1, rfl, k v1 H D [] (Ext.refl le) ⟨rfl, h2⟩ .nil⟩) nxok2 ha (fun w => (hb w).weak fun σ H Q ⟨H0, D0, D, os, hr, x, hx, hp⟩ => ⟨H0, D0, D, os, hr, x, hx, by
      cases hx
      exact fun v H' D' fp e ⟨h1, h2⟩ f => hp v H' D' fp e ⟨h1, rfl, h2⟩ f⟩) hp
theorem E_snd {A : Dt α} {B : Dt β} {ra : M (α × β)} (ha : ET X G Γ a (dat (tRec2 A B)) ra) (hb : ET X G Γ b (dat tInt) (ok 1)) (hp : PlainIx b := by intro _ _; rfl) : ET X G Γ (.Subscript a b pos) (dat B) (ra.bind fun x => ok x.2) :=
  E_ix (A := dat (tRec2 A B)) (R := dat B) (g := fun x (_ : Int) => ok x.2) (B := ⟨fun _ _ _ fp x v => fp = [] ∧ x = 1 ∧ v = .int 1, fun _ _ h => h⟩) ix_tup (fun H D xs i va vb fa fb c Q le ⟨_, p, v1, v2, z, h1, h2, h3⟩ ⟨_, _, z2⟩ hg k => by
    cases hg
    exact ⟨p, _, 1, v2, z, z2, SqT.mono le h1, rfl, k v2 H D [] (Ext.refl le) ⟨rfl, h3⟩ .nil⟩) nxok2 ha (fun w => (hb w).weak fun σ H Q ⟨H0, D0, D, os, hr, x, hx, hp⟩ => ⟨H0, D0, D, os, hr, x, hx, by
      cases hx
      exact fun v H' D' fp e ⟨h1, h2⟩ f => hp v H' D' fp e ⟨h1, rfl, h2⟩ f⟩) hp
/-! ### displays -/
theorem Same.upd {H : Hp} {p : Addr} {o : HO} (n : H p = none) : Le H (upd H p o) := fun b x e => by rw [upd_ne (ne_of_none e n)]; exact e
/-- items of one type, from the left -/
def tAs {α γ : Type} (K : Fr) (mg : Str → Option Value) (G : Ctx) (Γ : Vw) (A : Dt α) (k : List α → M γ) (r : M γ) : TA := fun σ H Q =>
  ∃ H0 D0 D os x, ∃ P : Hp → Hp → Rs γ → Prop, Rel K H0 D0 Γ σ H D os ∧ r = some x ∧ P H D x ∧ (∀ H1 D1, Ext H D H1 D1 → ∀ H2 D2, Ext H1 D1 H2 D2 → P H1 D1 x → P H2 D2 x) ∧
    (∀ e, x = .ex e → ∀ c d H' D' os', Rel K H0 D0 G.Vx σ H' D' os' → XRep K mg D' e c d → G.W c d σ H') ∧
    ∀ t vs H' D', k t = some x → Ext H D H' D' → Paired (A.rep K D') t vs → P H' D' x → Q vs H'
def IR (X : Cx) (G : Ctx) (Γ : Vw) (es : List Expr) {α γ : Type} (A : Dt α) (k : List α → M γ) (r : M γ) : Prop := Wf X G → PA X es (tAs X.K X.mg G Γ A k r)
theorem I_nil {A : Dt α} {k : List α → M γ} : IR X G Γ [] A k (k []) := fun w =>
  pa_nil.weak fun σ H Q ⟨H0, D0, D, os, x, P, hr, hx, hp, hg, he, q⟩ => q [] [] H D hx (Ext.refl hr.le) .nil hp
theorem I_cons {A : Dt α} {k : List α → M γ} {ra : M α} {rr : α → M γ} (ha : ET X G Γ a (dat A) ra) (hb : ∀ x, IR X G Γ es A (fun t => k (x :: t)) (rr x))
    (hs : starEach (a :: es) X.env = (false, eval a X.env) :: starEach es X.env := by rfl) : IR X G Γ (a :: es) A k (ra.bind rr) := fun w => by
  have hb' : PA X es (fun σ H Q => ∃ x, tAs X.K X.mg G Γ A (fun t => k (x :: t)) (rr x) σ H Q) := ⟨fun pos pins s σ H Q I ⟨x, h⟩ => (hb x w).run pos pins s σ H Q I h⟩
  refine (pa_cons (ha w) hb' hs).weak fun σ H Q ⟨H0, D0, D, os, x, P, hr, hx, hp, hg, he, q⟩ => ?_
  rcases bind_some hx with ⟨y, rfl, hf⟩ | ⟨e, rfl, rfl⟩
  · refine ⟨H0, D0, D, os, hr, _, rfl, fun v H1 D1 fp e1 r1 f1 => ⟨y, H0, D0, D1, os, x, P, hr.grow e1, hf, hg _ _ (Ext.refl hr.le) _ _ e1 hp, fun H2 D2 e2 => hg H2 D2 (e1.trans e2), he, fun t vs H' D' hk e2 ht p2 => ?_⟩⟩
    exact q (y :: t) (v :: vs) H' D' hk (e1.trans e2) (.cons (A.mono e2.d r1.2) ht) p2
  · exact ⟨H0, D0, D, os, hr, _, rfl, he _ rfl⟩
def psz {α : Type} (xs : List α) : M (List α) := grd (xs.length ≤ sizeLine) (ok xs)
theorem E_lst {A : Dt α} {r : M (List α)} (h : IR X G Γ es A psz r) : ET X G Γ (.List es pos) (own A) r := fun w =>
  (pe_lst (h w)).weak fun σ H Q ⟨H0, D0, D, os, hr, x, hx, hp⟩ =>
    ⟨H0, D0, D, os, x, fun H1 D1 x => ePost X.K X.mg G H0 D0 σ H1 D1 (own A) Q x, hr, hx, hp, fun _ _ _ _ _ e2 h => h.grow e2, fun e z => by subst z; exact hp, fun t vs H1 D1 hk e1 ht hp1 => by
      cases x with
      | ex e => exact absurd hk (grd_nx (fun z => nomatch z))
      | ok y =>
        obtain ⟨h1, h2⟩ := grd_ok hk
        cases h2
        refine ⟨by rw [← ht.length]; exact h1, fun p np => ?_⟩
        have nd : D1 p = none := e1.dh.free np
        exact hp1 (.ref p) _ D1 [p] (Ext.fresh e1.dh np) ⟨p, vs, rfl, rfl, upd_same, ht⟩ ⟨by simp, fun q hq => by
          have : q = p := by simpa using hq
          subst this
          exact ⟨np, nd, by rw [upd_same]; simp⟩⟩⟩
theorem E_row {A : Dt α} {r : M (List α)} {x1} (h : IR X G Γ es A psz r) : ET X G Γ (.Tuple es x1 pos) (dat (tRow A)) r := fun w =>
  (pe_tup (h w)).weak fun σ H Q ⟨H0, D0, D, os, hr, x, hx, hp⟩ =>
    ⟨H0, D0, D, os, x, fun H1 D1 x => ePost X.K X.mg G H0 D0 σ H1 D1 (dat (tRow A)) Q x, hr, hx, hp, fun _ _ _ _ _ e2 h => h.grow e2, fun e z => by subst z; exact hp, fun t vs H1 D1 hk e1 ht hp1 => by
      cases x with
      | ex e => exact absurd hk (grd_nx (fun z => nomatch z))
      | ok y =>
        obtain ⟨h1, h2⟩ := grd_ok hk
        cases h2
        refine ⟨by rw [← ht.length]; exact h1, fun p np => ?_⟩
        have nd : D1 p = none := e1.dh.free np
        exact hp1 (.ref p) _ _ [] (Ext.laid e1.dh np) ⟨rfl, p, vs, rfl, .inl (.inl upd_same), A.monos (Same.upd nd) ht⟩ .nil⟩
theorem E_rec2 {A : Dt α} {B : Dt β} {r : M (α × β)} {x1} (h : AR X G Γ es (.cons A (.cons B .nil)) (fun t => ok (t.1, t.2.1)) r) : ET X G Γ (.Tuple es x1 pos) (dat (tRec2 A B)) r := fun w =>
  (pe_tup (h w)).weak fun σ H Q ⟨H0, D0, D, os, hr, x, hx, hp⟩ =>
    ⟨H0, D0, D, os, x, fun H1 D1 x => ePost X.K X.mg G H0 D0 σ H1 D1 (dat (tRec2 A B)) Q x, hr, hx, hp, fun _ _ _ _ _ e2 h => h.grow e2, fun e z => by subst z; exact hp, fun t vs H1 D1 hk e1 ht hp1 => by
      cases hk
      obtain ⟨v1, r1, rfl, t1, v2, r2, rfl, t2, e0⟩ := ht
      cases (show r2 = [] from e0)
      refine ⟨(by decide : 2 ≤ sizeLine), fun p np => ?_⟩
      have nd : D1 p = none := e1.dh.free np
      exact hp1 (.ref p) _ _ [] (Ext.laid e1.dh np) ⟨rfl, p, v1, v2, rfl, .inl (.inl upd_same), A.mono (Same.upd nd) t1, B.mono (Same.upd nd) t2⟩ .nil⟩
end
end T
set_option maxRecDepth 100000
set_option maxHeartbeats 4000000
namespace T
open PySem PySem.Spec PyProof.Rows L2
/-! ### statements -/
inductive Dest (ρ : Type) where
  | nx (Γ : Vw) | rt (a : ρ) | bk (Γ : Vw) | ct (Γ : Vw)
inductive Fl (C ρ : Type) where
  | nx (c : C) | rt (a : ρ)
def ZF {C ρ : Type} (Γ : C → Vw) : Fl C ρ → Dest ρ
  | .nx c => .nx (Γ c)
  | .rt a => .rt a
def dPost {ρ : Type} (K : Fr) (H0 D0 : Hp) (R : Rp ρ) (D : Ends) : Dest ρ → Prop
  | .nx Γ => ∀ σ' H' D' os', Rel K H0 D0 Γ σ' H' D' os' → D.nx σ' H'
  | .bk Γ => ∀ σ' H' D' os', Rel K H0 D0 Γ σ' H' D' os' → D.bk σ' H'
  | .ct Γ => ∀ σ' H' D' os', Rel K H0 D0 Γ σ' H' D' os' → D.ct σ' H'
  | .rt a => ∀ v H' D' fp, Ext H0 D0 H' D' → R.rep K H' D' fp a v → Frs H0 D' H' fp → D.rt v H'
def jPost {θ ρ : Type} (K : Fr) (mg : Str → Option Value) (G : Ctx) (H0 D0 : Hp) (R : Rp ρ) (Z : θ → Dest ρ) (D : Ends) : Rs θ → Prop
  | .ok t => dPost K H0 D0 R D (Z t)
  | .ex e => ∀ c d σ' H' D' os', Rel K H0 D0 G.Vx σ' H' D' os' → XRep K mg D' e c d → G.W c d σ' H'
theorem jPost.ok {θ ρ : Type} {K : Fr} {mg : Str → Option Value} {G : Ctx} {H0 D0 : Hp} {R : Rp ρ} {Z : θ → Dest ρ} {D : Ends} {t : θ} {z : Dest ρ} (h : jPost K mg G H0 D0 R Z D (.ok t)) (e : Z t = z) : dPost K H0 D0 R D z := e ▸ h
theorem jPost.of {θ ρ : Type} {K : Fr} {mg : Str → Option Value} {G : Ctx} {H0 D0 : Hp} {R : Rp ρ} {Z : θ → Dest ρ} {D : Ends} {t : θ} {z : Dest ρ} (e : Z t = z) (h : dPost K H0 D0 R D z) : jPost K mg G H0 D0 R Z D (.ok t) := by subst e; exact h
def tJ {θ ρ : Type} (K : Fr) (mg : Str → Option Value) (G : Ctx) (Γ : Vw) (R : Rp ρ) (Z : θ → Dest ρ) (r : M θ) : TS := fun E σ H =>
  ∃ H0 D0 D os, Rel K H0 D0 Γ σ H D os ∧ ∃ x, r = some x ∧ jPost K mg G H0 D0 R Z E x
def JB {θ ρ : Type} (X : Cx) (G : Ctx) (Γ : Vw) (b : List Stmt) (R : Rp ρ) (Z : θ → Dest ρ) (r : M θ) : Prop := Wf X G → PSs X b (tJ X.K X.mg G Γ R Z r)
def JS {θ ρ : Type} (X : Cx) (G : Ctx) (Γ : Vw) (b : Stmt) (R : Rp ρ) (Z : θ → Dest ρ) (r : M θ) : Prop := Wf X G → PS X b (tJ X.K X.mg G Γ R Z r)
theorem _root_.L2.PS.weakI {X : Cx} {e : Stmt} {t t' : TS} (h : PS X e t) (w : ∀ D σ H, σ.length = X.N.length → t' D σ H → t D σ H) : PS X e t' := ⟨fun pins s σ H D I hq => h.run pins s σ H D I (w _ _ _ I.len hq)⟩
section
variable {K : Fr} {mg : Str → Option Value} {G : Ctx} {H0 D0 H D H1 D1 : Hp} {Γ : Vw} {σ : L2.St} {os : List Addr} {α : Type}
theorem Rel.rebase (r : Rel K H0 D0 Γ σ H D os) : Rel K H0 D Γ σ H D os := ⟨⟨r.ext.h, Same.refl _, r.ext.dh, fun _ h _ => h⟩, r.own, r.nd, r.hold⟩
theorem Rel.unbase {Di : Hp} (d : Le D0 Di) (o : ∀ p, D0 p = none → H0 p ≠ none → Di p = none) (r : Rel K H0 Di Γ σ H D os) : Rel K H0 D0 Γ σ H D os :=
  ⟨⟨r.ext.h, d.trans r.ext.d, r.ext.dh, fun p h1 h2 => r.ext.out p (o p h1 h2) h2⟩, r.own, r.nd, r.hold⟩
theorem jPost.rebase {θ ρ : Type} {R : Rp ρ} {Z : θ → Dest ρ} {E : Ends} {x : Rs θ} {Di : Hp} (d : Le D0 Di) (o : ∀ p, D0 p = none → H0 p ≠ none → Di p = none) (h : jPost K mg G H0 D0 R Z E x) : jPost K mg G H0 Di R Z E x := by
  cases x with
  | ex e => exact fun c d' σ' H' D' os' r => h c d' σ' H' D' os' (r.unbase d o)
  | ok t =>
    have h := h.ok rfl
    refine jPost.of rfl ?_
    cases z : Z t with
    | nx Γ => rw [z] at h; exact fun σ' H' D' os' r => h σ' H' D' os' (r.unbase d o)
    | bk Γ => rw [z] at h; exact fun σ' H' D' os' r => h σ' H' D' os' (r.unbase d o)
    | ct Γ => rw [z] at h; exact fun σ' H' D' os' r => h σ' H' D' os' (r.unbase d o)
    | rt a => rw [z] at h; exact fun v H' D' fp e => h v H' D' fp ⟨e.h, d.trans e.d, e.dh, fun p h1 h2 => e.out p (o p h1 h2) h2⟩
/-- an entry is put -/
theorem Rel.put (r : Rel K H0 D0 Γ σ H D os) {i : Nat} {R : Rp α} {st : Stable R} {a : α} {v : L2.V} {fp : List Addr} {Hb : Hp} (hi : i < σ.length) (hl : Le H0 Hb) (hne : ∀ p ∈ os, Hb p ≠ none) (h : R.rep K H D fp a v) (f : Frs Hb D H fp) :
    ∃ os', Rel K H0 D0 (T.put ⟨i, α, R, st, a⟩ Γ) (σ.set i (some v)) H D os' := by
  obtain ⟨os', q1, q2, q3⟩ := r.hold.rmv i r.nd
  refine ⟨fp ++ os', r.ext, fun p hp => ?_, List.nodup_append.mpr ⟨f.1, q2, fun a ha b hb e => ?_⟩, ⟨fp, os', rfl, ⟨v, ?_, h⟩, q1.set⟩⟩
  · rcases List.mem_append.mp hp with z | z
    · exact ⟨hl.free (f.2 p z).1, (f.2 p z).2⟩
    · exact r.own p (q3 p z)
  · subst e; exact hne a (q3 a hb) (f.2 a ha).1
  · show (σ.set i (some v))[i]? = _
    rw [List.getElem?_set_self hi]
end
section
variable {X : Cx} {G : Ctx} {Γ : Vw} {α β γ δ τ ρ θ C C' : Type} {a b c e : Expr} {pos : Pos} {st : Stmt} {rest A B : List Stmt} {R : Rp ρ} {Z : θ → Dest ρ}
theorem J_nil (is : List Nat) (t : θ) (hz : Z t = .nx (pick is Γ) := by rfl) : JB X G Γ [] R Z (ok t) := fun w =>
  pss_nil.weak fun E σ H ⟨H0, D0, D, os, hr, x, hx, hp⟩ => by
    cases hx
    have hp := hp.ok hz
    obtain ⟨os', q⟩ := hr.pick is
    exact hp σ H D os' q
theorem J_last {r : M θ} (h : JS X G Γ st R Z r) : JB X G Γ [st] R Z r := fun w => pss_one (h w)
theorem J_cons {Γ1 : C → Vw} {r1 : M C} {k : C → M θ} (h1 : JS X G Γ st R (fun c => .nx (Γ1 c)) r1) (h2 : ∀ c, JB X G (Γ1 c) rest R Z (k c)) : JB X G Γ (st :: rest) R Z (r1.bind k) := fun w => by
  have h2' : PSs X rest (fun E σ H => ∃ c, tJ X.K X.mg G (Γ1 c) R Z (k c) E σ H) := ⟨fun pins s σ H D I ⟨c, h⟩ => (h2 c w).run pins s σ H D I h⟩
  refine (pss_cons (h1 w) h2').weak fun E σ H ⟨H0, D0, D, os, hr, x, hx, hp⟩ => ?_
  rcases bind_some hx with ⟨c, rfl, hf⟩ | ⟨e, rfl, rfl⟩
  · exact ⟨H0, D0, D, os, hr, _, rfl, fun σ' H' D' os' r => ⟨c, H0, D0, D', os', r, x, hf, hp⟩⟩
  · exact ⟨H0, D0, D, os, hr, _, rfl, hp⟩
def sq {C ρ θ : Type} (r : M (Fl C ρ)) (k : C → M θ) (ι : ρ → θ) : M θ := r.bind fun f => match f with
  | .nx c => k c
  | .rt a => ok (ι a)
theorem J_fl {Γ1 : C → Vw} {r1 : M (Fl C ρ)} {k : C → M θ} (ι : ρ → θ) (h1 : JS X G Γ st R (ZF Γ1) r1) (h2 : ∀ c, JB X G (Γ1 c) rest R Z (k c)) (hι : ∀ a, Z (ι a) = .rt a := by intro _; rfl) : JB X G Γ (st :: rest) R Z (sq r1 k ι) := fun w => by
  have h2' : PSs X rest (fun E σ H => ∃ c, tJ X.K X.mg G (Γ1 c) R Z (k c) E σ H) := ⟨fun pins s σ H D I ⟨c, h⟩ => (h2 c w).run pins s σ H D I h⟩
  refine (pss_cons (h1 w) h2').weak fun E σ H ⟨H0, D0, D, os, hr, x, hx, hp⟩ => ?_
  rcases bind_some hx with ⟨c, rfl, hf⟩ | ⟨e, rfl, rfl⟩
  · cases c with
    | nx c => exact ⟨H0, D0, D, os, hr, _, rfl, fun σ' H' D' os' r => ⟨c, H0, D0, D', os', r, x, hf, hp⟩⟩
    | rt a =>
      cases (show ok (ι a) = some x from hf)
      have hp := hp.ok (hι _)
      exact ⟨H0, D0, D, os, hr, _, rfl, hp⟩
  · exact ⟨H0, D0, D, os, hr, _, rfl, hp⟩
theorem S_ret {re : M ρ} (ι : ρ → θ) (he : ET X G Γ e R re) (hι : ∀ a, Z (ι a) = .rt a := by intro _; rfl) : JS X G Γ (.Return (some e) pos) R Z (re.bind fun a => ok (ι a)) := fun w =>
  (ps_ret (he w)).weak fun E σ H ⟨H0, D0, D, os, hr, x, hx, hp⟩ => by
    rcases bind_some hx with ⟨c, rfl, hf⟩ | ⟨e, rfl, rfl⟩
    · cases hf
      have hp := hp.ok (hι _)
      exact ⟨H0, D0, D, os, hr, _, rfl, fun v H' D' fp e r f => hp v H' D' fp (hr.ext.trans e) r (f.back hr.ext.h)⟩
    · exact ⟨H0, D0, D, os, hr, _, rfl, fun c d H' D' os' r q => hp c d σ H' D' os' r q⟩
theorem S_retT {re : M ρ} (he : ET X G Γ e R re) : JS X G Γ (.Return (some e) pos) R (fun a => .rt a) re := by
  have := S_ret (Z := fun a => Dest.rt a) (pos := pos) (fun a => a) he
  rw [show (re.bind fun a => ok a) = re from bind_ret re] at this
  exact this
/-- a list of one's own is handed back -/
theorem S_retO (i : Nat) {x : Str} {A : Dt α} {val : List α} {Z : θ → Dest (List α)} {p : Pos} (ι : List α → θ) (hf : find i Γ = some (eO i A val) := by rfl) (hN : X.N[i]? = some x := by rfl) (hv : Vis X.env.scope x := by first | exact Or.inl rfl | exact Or.inr (Or.inl rfl) | exact Or.inr (Or.inr rfl))
    (hι : ∀ a, Z (ι a) = .rt a := by intro _; rfl) (hd : (x == ("__debug__" : Str)) = false := by decide) (hcd : (x == ("__classdict__" : Str)) = false := by decide) : JS X G Γ (.Return (some (.Name x p)) pos) (own A) Z (ok (ι val)) := fun w =>
  (ps_ret (pe_var hN hv hd hcd)).weak fun E σ H ⟨H0, D0, D, os, hr, x, hx, hp⟩ => by
    cases hx
    have hp := hp.ok (hι _)
    obtain ⟨fp, os', v, q1, q2, _, q4, q5⟩ := hr.hold.find hf hr.nd
    refine ⟨v, q1, hp v H D fp hr.ext q2 ⟨(List.nodup_append.mp q4).1, fun p h => hr.own p (q5 p (List.mem_append_left _ h))⟩⟩
theorem S_if {rc : M Bool} {ra rb : M θ} (hc : BT X G Γ c rc) (hA : JB X G Γ A R Z ra) (hB : JB X G Γ B R Z rb) : JS X G Γ (.If c A B pos) R Z (rc.bind fun b => if b = true then ra else rb) := fun w =>
  (ps_if (hc w) (hA w) (hB w)).weak fun E σ H ⟨H0, D0, D, os, hr, x, hx, hp⟩ => by
    refine seqB (P := fun _ _ x => jPost X.K X.mg G H0 D0 R Z E x) hr hx hp (fun e h => fun c d => h c d σ) (fun _ _ _ h => h) fun z H1 D1 _ hx1 e1 hr1 hp1 => ?_
    cases z with
    | true => exact ⟨H0, D0, D1, os, hr1, x, hx1, hp1⟩
    | false => exact ⟨H0, D0, D1, os, hr1, x, hx1, hp1⟩
/-- if c: .. return; then the rest -/
theorem J_ifr {rc : M Bool} {ra : M ρ} {rk : M θ} (ι : ρ → θ) (hc : BT X G Γ c rc) (hA : JB X G Γ A R (fun a => .rt a) ra) (hk : JB X G Γ rest R Z rk) (hι : ∀ a, Z (ι a) = .rt a := by intro _; rfl) :
    JB X G Γ (.If c A [] pos :: rest) R Z (rc.bind fun b => if b = true then ra.bind (fun a => ok (ι a)) else rk) := fun w =>
  (pss_cons (ps_if (hc w) (hA w) pss_nil) (hk w)).weak fun E σ H ⟨H0, D0, D, os, hr, x, hx, hp⟩ => by
    refine seqB (P := fun _ _ x => jPost X.K X.mg G H0 D0 R Z E x) hr hx hp (fun e h => fun c d => h c d σ) (fun _ _ _ h => h) fun z H1 D1 _ hx1 e1 hr1 hp1 => ?_
    cases z with
    | true =>
      have hx2 : ra.bind (fun a => ok (ι a)) = some x := hx1
      rcases bind_some hx2 with ⟨y, rfl, hf⟩ | ⟨e, rfl, rfl⟩
      · cases hf
        have hp1 := hp1.ok (hι _)
        exact ⟨H0, D0, D1, os, hr1, _, rfl, hp1⟩
      · exact ⟨H0, D0, D1, os, hr1, _, rfl, hp1⟩
    | false => exact ⟨H0, D0, D1, os, hr1, x, hx1, hp1⟩
theorem J_ifrT {rc : M Bool} {ra rk : M ρ} (hc : BT X G Γ c rc) (hA : JB X G Γ A R (fun a => .rt a) ra) (hk : JB X G Γ rest R (fun a => .rt a) rk) :
    JB X G Γ (.If c A [] pos :: rest) R (fun a => .rt a) (rc.bind fun b => if b = true then ra else rk) := by
  have := J_ifr (Z := fun a => Dest.rt a) (pos := pos) (fun a => a) hc hA hk
  rw [show (ra.bind fun a => ok a) = ra from bind_ret ra] at this
  exact this
/-- x = e -/
theorem S_setR (i : Nat) {x : Str} {Q : Rp α} (sQ : Stable Q) {re : M α} {p : Pos} (he : ET X G Γ e Q re) (hN : X.N[i]? = some x := by rfl) (hx : Loc X.env.scope x := by first | exact Or.inl rfl | exact Or.inr rfl) (hs : swapsWith e (some (.Name x p)) pos.line X.env = pure false := by rfl)
    (hf : X.fn x = true ∨ X.env.scope.names.lookup x = some .local := by first | exact Or.inl rfl | exact Or.inr rfl) :
    JS X G Γ (.Assign [.Name x p] e pos) R (fun a => .nx (put ⟨i, α, Q, sQ, a⟩ Γ)) re := fun w =>
  (ps_set w.nd hN hx (he w) hs hf).weakI fun E σ H hl ⟨H0, D0, D, os, hr, x, hx, hp⟩ => by
    refine ⟨H0, D0, D, os, hr, x, hx, ?_⟩
    cases x with
    | ex e => exact fun c d => hp c d σ
    | ok t =>
      intro v H' D' fp e r f
      have hi : i < σ.length := by rw [hl]; exact (List.getElem?_eq_some_iff.mp hN).1
      obtain ⟨os', q⟩ := (hr.grow e).put (st := sQ) hi hr.ext.h (fun p h => (hr.own p h).2.2) r f
      exact hp _ H' D' os' q
theorem S_set (i : Nat) {x : Str} {A : Dt α} {re : M α} {p : Pos} (he : ET X G Γ e (dat A) re) (hN : X.N[i]? = some x := by rfl) (hx : Loc X.env.scope x := by first | exact Or.inl rfl | exact Or.inr rfl) (hs : swapsWith e (some (.Name x p)) pos.line X.env = pure false := by rfl)
    (hf : X.fn x = true ∨ X.env.scope.names.lookup x = some .local := by first | exact Or.inl rfl | exact Or.inr rfl) :
    JS X G Γ (.Assign [.Name x p] e pos) R (fun a => .nx (put (eD i A a) Γ)) re := S_setR i (dat_st A) he hN hx hs hf
theorem S_setO (i : Nat) {x : Str} {A : Dt α} {re : M (List α)} {p : Pos} (he : ET X G Γ e (own A) re) (hN : X.N[i]? = some x := by rfl) (hx : Loc X.env.scope x := by first | exact Or.inl rfl | exact Or.inr rfl) (hs : swapsWith e (some (.Name x p)) pos.line X.env = pure false := by rfl)
    (hf : X.fn x = true ∨ X.env.scope.names.lookup x = some .local := by first | exact Or.inl rfl | exact Or.inr rfl) :
    JS X G Γ (.Assign [.Name x p] e pos) R (fun a => .nx (put (eO i A a) Γ)) re := S_setR i (own_st A) he hN hx hs hf
theorem S_eq {r r' : M θ} (h : JS X G Γ st R Z r) (e : r = r') : JS X G Γ st R Z r' := e ▸ h
/-- x op= e, on numbers -/
def Ip2 (X : Cx) (op : Operator) (g : Int → Int → M Int) : Prop := ∃ t : TIp, PIp X op t ∧ ∀ (H : Hp) i j c Q, g i j = ok c → Q (.int c) H → t (.int i) (.int j) H Q
theorem S_aug (i : Nat) {x : Str} {op : Operator} {g : Int → Int → M Int} {val : Int} {re : M Int} {p : Pos} (ho : Ip2 X op g) (nx : NX2 g) (he : ET X G Γ e (dat tInt) re) (hv : find i Γ = some (eD i tInt val) := by rfl) (hN : X.N[i]? = some x := by rfl) (hx : Loc X.env.scope x := by first | exact Or.inl rfl | exact Or.inr rfl)
    (hf : X.fn x = true ∨ X.env.scope.names.lookup x = some .local := by first | exact Or.inl rfl | exact Or.inr rfl) :
    JS X G Γ (.AugAssign (.Name x p) op e pos) R (fun a => .nx (put (eD i tInt a) Γ)) (re.bind fun y => g val y) := fun w => by
  obtain ⟨t, ht, hg⟩ := ho
  refine (ps_aug w.nd hN hx (he w) ht hf).weakI fun E σ H hl ⟨H0, D0, D, os, hr, x, hx, hp⟩ => ?_
  obtain ⟨fp, os', v, q1, ⟨_, q2⟩, _, _, _⟩ := hr.hold.find hv hr.nd
  refine ⟨v, q1, ?_⟩
  cases (show v = V.int val from q2)
  have hi : i < σ.length := by rw [hl]; exact (List.getElem?_eq_some_iff.mp hN).1
  refine seqE (P := fun _ _ x => jPost X.K X.mg G H0 D0 R (fun a => Dest.nx (put (eD i tInt a) Γ)) E x) hr hx hp (fun e h => fun c d => h c d σ) (fun _ _ _ h => h) fun z H1 D1 fp v _ hx1 e1 r1 f1 hr1 hp1 => ?_
  cases x with
  | ex e => exact absurd hx1 (nx _ _ _)
  | ok c =>
    obtain ⟨_, z1⟩ := r1
    cases (show v = V.int z from z1)
    refine hg H1 val z c _ hx1 ?_
    obtain ⟨os', q⟩ := hr1.put (i := i) (R := dat tInt) (st := dat_st tInt) (a := c) (v := .int c) (fp := []) hi hr1.ext.h (fun p h => (hr1.own p h).2.2) ⟨rfl, rfl⟩ .nil
    exact hp1 _ H1 D1 os' q
/-- an expression alone -/
theorem S_expr {Q : Rp α} {re : M α} (he : ET X G Γ e Q re) (hs : swapsWith e none pos.line X.env = pure false := by rfl) : JS X G Γ (.Expr e pos) R (fun _ : Unit => .nx Γ) (re.bind fun _ => ok ()) := fun w =>
  (ps_expr (he w) hs).weak fun E σ H ⟨H0, D0, D, os, hr, x, hx, hp⟩ =>
    seqE (P := fun _ _ x => jPost X.K X.mg G H0 D0 R (fun _ : Unit => Dest.nx Γ) E x) hr hx hp (fun e h => fun c d => h c d σ) (fun _ _ _ h => h) fun z H1 D1 fp v _ hx1 e1 r1 f1 hr1 hp1 => by
      cases hx1
      exact hp1 σ H1 D1 os hr1
/-! ### a list of one's own is changed -/
theorem Rel.upd {K : Fr} {H0 D0 H D : Hp} {σ : L2.St} {os : List Addr} {i : Nat} {A : Dt α} {val new : List α} {vs' : List L2.V} {p : Addr} {vs : List L2.V} (r : Rel K H0 D0 Γ σ H D os) (hf : find i Γ = some (eO i A val)) (hσ : σ[i]? = some (some (.ref p))) (hp : H p = some (.lst vs)) (ho : p ∈ os)
    (hn : Paired (A.rep K D) new vs') (q : ∃ os', Hold K H D σ (T.rmv i Γ) os' ∧ (p :: os').Nodup ∧ ∀ x ∈ p :: os', x ∈ os) : ∃ os', Rel K H0 D0 (T.put (eO i A new) Γ) σ (L2.upd H p (.lst vs')) D os' := by
  obtain ⟨os', q1, q2, q3⟩ := q
  obtain ⟨h1, h2, h3⟩ := r.own p ho
  have agree : ∀ x ∈ os', L2.upd H p (.lst vs') x = H x := fun x hx => upd_ne (fun z => (List.nodup_cons.mp q2).1 (z ▸ hx))
  refine ⟨p :: os', ⟨fun b o z => ?_, r.ext.d, fun b o z => ?_, r.ext.out⟩, fun x hx => ?_, q2, ⟨[p], os', rfl, ⟨.ref p, hσ, p, vs', rfl, rfl, upd_same, hn⟩, q1.agree agree (Same.refl _)⟩⟩
  · rw [upd_ne (ne_of_none z h1)]; exact r.ext.h b o z
  · rw [upd_ne (ne_of_none z h2)]; exact r.ext.dh b o z
  · obtain ⟨m1, m2, m3⟩ := r.own x (q3 x hx)
    refine ⟨m1, m2, ?_⟩
    by_cases z : x = p
    · subst z; rw [upd_same]; simp
    · rw [upd_ne z]; exact m3
def papp {α : Type} (xs : List α) (x : α) : M (List α) := grd (xs.length < sizeLine) (ok (xs ++ [x]))
theorem Paired.snoc {F : α → L2.V → Prop} {x : α} {v : L2.V} (h : F x v) : ∀ {xs : List α} {vs : List L2.V}, Paired F xs vs → Paired F (xs ++ [x]) (vs ++ [v])
  | _, _, .nil => .cons h .nil
  | _, _, .cons r t => .cons r (Paired.snoc h t)
/-- the address of an own list *)-/
theorem Rel.mut {K : Fr} {H0 D0 H D : Hp} {σ : L2.St} {os : List Addr} {i : Nat} {A : Dt α} {val : List α} (r : Rel K H0 D0 Γ σ H D os) (hf : find i Γ = some (eO i A val)) :
    ∃ p vs, σ[i]? = some (some (.ref p)) ∧ H p = some (.lst vs) ∧ Paired (A.rep K D) val vs ∧ ∀ H1 D1, Ext H D H1 D1 → H1 p = some (.lst vs) ∧ Paired (A.rep K D1) val vs ∧ ∀ new vs', Paired (A.rep K D1) new vs' → ∃ os', Rel K H0 D0 (T.put (eO i A new) Γ) σ (L2.upd H1 p (.lst vs')) D1 os' := by
  obtain ⟨fp, os', v, q1, ⟨p, vs, rfl, rfl, r3, r4⟩, q3, q4, q5⟩ := r.hold.find hf r.nd
  refine ⟨p, vs, q1, r3, r4, fun H1 D1 e => ⟨e.h _ _ r3, A.monos e.d r4, fun new vs' h => ?_⟩⟩
  refine (r.grow e).upd hf q1 (e.h _ _ r3) (q5 p (List.mem_append_left _ List.mem_cons_self)) h ⟨os', q3.agree (fun x hx => e.h.eq (r.own x (q5 x (List.mem_append_right _ hx))).2.2) e.d, q4, q5⟩
theorem S_append (i : Nat) {x : Str} {A : Dt α} {val : List α} {re : M α} {p p2 ep : Pos} (he : ET X G Γ e (dat A) re) (hv : find i Γ = some (eO i A val) := by rfl) (hN : X.N[i]? = some x := by rfl) (hvis : Vis X.env.scope x := by first | exact Or.inl rfl | exact Or.inr (Or.inl rfl) | exact Or.inr (Or.inr rfl))
    (hs1 : starEach [e] X.env = [(false, eval e X.env)] := by rfl) (hs : swapsWith (.Call (.Attribute (.Name x p) "append" p2) [e] [] ep) none pos.line X.env = pure false := by rfl)
    (hpl : (backTo ep (starEach [] X.env)).any (·.1) = false := by rfl) (hd : (x == ("__debug__" : Str)) = false := by decide) (hcd : (x == ("__classdict__" : Str)) = false := by decide)
    (hbase : attributeBase (.Name x p) "append" X.env (eval (.Name x p) X.env) = eval (.Name x p) X.env := by rfl)
    (hfew : ((backTo ep (starEach [e] X.env)).all (fun x => !x.1) && (backToKw ep (keywordEach [] X.env)).all (fun x => x.1.isSome)
      && decide (([e] : List Expr).length + ([] : List Keyword).length + (if ([] : List Keyword).isEmpty then 0 else 1) < 30)) = true := by rfl)
    (hline : (p2.endLine == ep.line) = true := by rfl) :
    JS X G Γ (.Expr (.Call (.Attribute (.Name x p) "append" p2) [e] [] ep) pos) R (fun a => .nx (put (eO i A a) Γ)) (re.bind fun y => papp val y) := fun w =>
  (ps_expr (pe_bm PySem.F.plainAttrs_list PySem.F.slot_list_append PySem.F.type_list_append mt_append (pe_var hN hvis hd hcd) (pa_cons (he w) pa_nil hs1) hbase hfew hline hs1 hpl) hs).weak fun E σ H ⟨H0, D0, D, os, hr, x, hx, hp⟩ => by
    obtain ⟨q, vs, h1, h2, h3, h4⟩ := hr.mut hv
    refine ⟨.ref q, h1, .inl ⟨rfl, vs, SqL.of h2⟩, ?_⟩
    refine seqE (P := fun _ _ x => jPost X.K X.mg G H0 D0 R (fun a => Dest.nx (put (eO i A a) Γ)) E x) hr hx hp (fun e h => fun c d => h c d σ) (fun _ _ _ h => h) fun z H1 D1 fp v _ hx1 e1 r1 f1 hr1 hp1 => ?_
    cases x with
    | ex e => exact absurd hx1 (grd_nx (fun z => nomatch z))
    | ok c =>
      obtain ⟨g1, g2⟩ := grd_ok hx1
      cases g2
      obtain ⟨m1, m2, m3⟩ := h4 H1 D1 e1
      refine ⟨q, vs, v, rfl, rfl, m1, by rw [← h3.length]; exact g1, ?_⟩
      obtain ⟨os', qq⟩ := m3 (val ++ [z]) (vs ++ [v]) (Paired.snoc r1.2 m2)
      exact hp1 σ _ D1 os' qq
def pset {α : Type} (xs : List α) (i : Int) (x : α) : M (List α) := match ixN xs.length i with
  | some j => ok (xs.set j x)
  | none => stuck
theorem Paired.set {F : α → L2.V → Prop} {x : α} {v : L2.V} (h : F x v) : ∀ {xs : List α} {vs : List L2.V} (j : Nat), Paired F xs vs → Paired F (xs.set j x) (vs.set j v)
  | _, _, _, .nil => .nil
  | _, _, 0, .cons r t => .cons h t
  | _, _, j + 1, .cons r t => .cons r (Paired.set h j t)
/-- xs[j] = e -/
theorem S_store (i : Nat) {x : Str} {A : Dt α} {val : List α} {re : M α} {rj : M Int} {j : Expr} {p sp : Pos} (he : ET X G Γ e (dat A) re) (hj : ET X G Γ j (dat tInt) rj) (hv : find i Γ = some (eO i A val) := by rfl) (hN : X.N[i]? = some x := by rfl)
    (hvis : Vis X.env.scope x := by first | exact Or.inl rfl | exact Or.inr (Or.inl rfl) | exact Or.inr (Or.inr rfl)) (hd : (x == ("__debug__" : Str)) = false := by decide) (hcd : (x == ("__classdict__" : Str)) = false := by decide)
    (ha : ∀ v, assign (.Subscript (.Name x p) j sp) X.env v = (do
      let ov ← holding [v] (eval (.Name x p) X.env)
      let iv ← holding [v, ov] (eval j X.env)
      standAt sp
      holding [v, ov, iv] (setItem ov iv v)
      release [v, ov, iv] []) := by intro _; rfl)
    (hs : swapsWithSole [.Subscript (.Name x p) j sp] e pos.line X.env = pure false := by rfl) (hw : swappedStores [.Subscript (.Name x p) j sp] e X.env = pure none := by rfl)
    (h1 : (assignEach [.Subscript (.Name x p) j sp] X.env).map (·.2) = [assign (.Subscript (.Name x p) j sp) X.env] := by rfl) :
    JS X G Γ (.Assign [.Subscript (.Name x p) j sp] e pos) R (fun a => .nx (put (eO i A a) Γ)) (re.bind fun y => rj.bind fun k => pset val k y) := fun w =>
  (ps_asg (he w) (pg_sub (pe_var hN hvis hd hcd) (hj w) set_list ha) hs hw h1).weak fun E σ H ⟨H0, D0, D, os, hr, x, hx, hp⟩ => by
    obtain ⟨q, vs, h1, h2, h3, h4⟩ := hr.mut hv
    refine seqE (P := fun _ _ x => jPost X.K X.mg G H0 D0 R (fun a => Dest.nx (put (eO i A a) Γ)) E x) hr hx hp (fun e h => fun c d => h c d σ) (fun _ _ _ h => h) fun z H1 D1 fp v _ hx1 e1 r1 f1 hr1 hp1 => ?_
    refine ⟨.ref q, h1, ?_⟩
    refine seqE (P := fun _ _ x => jPost X.K X.mg G H0 D0 R (fun a => Dest.nx (put (eO i A a) Γ)) E x) hr1 hx1 hp1 (fun e h => fun c d => h c d σ) (fun _ _ _ h => h) fun k H2 D2 fp2 v2 _ hx2 e2 r2 f2 hr2 hp2 => ?_
    unfold pset at hx2
    cases g : ixN val.length k with
    | none => rw [g] at hx2; cases hx2
    | some j' =>
      rw [g] at hx2
      cases hx2
      obtain ⟨m1, m2, m3⟩ := h4 H2 D2 (e1.trans e2)
      refine ⟨q, vs, k, j', rfl, r2.2, m1, by rw [← h3.length]; exact g, ?_⟩
      obtain ⟨os', qq⟩ := m3 (val.set j' z) (vs.set j' v) (Paired.set (A.mono e2.d r1.2) j' m2)
      exact hp2 σ _ D2 os' qq
end
end T
set_option maxRecDepth 100000
set_option maxHeartbeats 4000000
namespace T
open PySem PySem.Spec PyProof.Rows L2
/-! ### what is walked -/
def ItOk {α : Type} (K : Fr) (J : It) (D1 : Hp) (A : Dt α) (xs : List α) : Prop := ∀ i H D, Le D1 D → Le D H →
  (∀ x, xs[i]? = some x → J.go i H ∧ ∀ v H', J.yld i H v H' → ∃ D', Ext H D H' D' ∧ A.rep K D' x v) ∧ (xs.length ≤ i → J.stop i H)
def tI {α : Type} (K : Fr) (mg : Str → Option Value) (G : Ctx) (Γ : Vw) (A : Dt α) (r : M (List α)) : TI := fun σ H R =>
  ∃ H0 D0 D os, Rel K H0 D0 Γ σ H D os ∧ ∃ x, r = some x ∧ match x with
    | .ok xs => ∀ J H' D', Ext H D H' D' → ItOk K J D' A xs → R J H'
    | .ex e => ∀ c d H' D' os', Rel K H0 D0 G.Vx σ H' D' os' → XRep K mg D' e c d → G.W c d σ H'
def ITR (X : Cx) (G : Ctx) (Γ : Vw) (tg it : Expr) {α : Type} (A : Dt α) (r : M (List α)) : Prop := Wf X G → PI X tg it (tI X.K X.mg G Γ A r)
theorem _root_.L2.PI.weak {X : Cx} {tg e : Expr} {t t' : TI} (h : PI X tg e t) (w : ∀ σ H Q, t' σ H Q → t σ H Q) : PI X tg e t' := ⟨fun pins s σ H Q I hq => h.run pins s σ H Q I (w _ _ _ hq)⟩
theorem Paired.get {α : Type} {F : α → L2.V → Prop} : ∀ {xs : List α} {vs : List L2.V} {i : Nat} {x : α}, Paired F xs vs → xs[i]? = some x → ∃ v, vs[i]? = some v ∧ F x v
  | _, _, _, _, .nil, e => by simp at e
  | _, _, 0, _, .cons r _, e => by simp at e; subst e; exact ⟨_, by simp, r⟩
  | _, _, i + 1, x, .cons _ t, e => by
    obtain ⟨v, h1, h2⟩ := Paired.get (i := i) (x := x) t (by simpa using e)
    exact ⟨v, by simpa using h1, h2⟩
theorem SqL.mono {K : Fr} {H H' : Hp} {a : Addr} {xs : List L2.V} (e : Le H H') (h : SqL K H a xs) : SqL K H' a xs := Same.seq e h
theorem itok_list {α : Type} {K : Fr} {D1 : Hp} {A : Dt α} {xs : List α} {p : Addr} {vs : List L2.V} (h1 : SqL K D1 p vs) (h2 : Paired (A.rep K D1) xs vs) : ItOk K (Itl K p) D1 A xs := fun i H D e1 e2 => by
  have hS : SqL K H p vs := SqL.mono (e1.trans e2) h1
  refine ⟨fun x hx => ?_, fun hl => ⟨vs, hS, by rw [← h2.length]; exact hl⟩⟩
  obtain ⟨v, q1, q2⟩ := Paired.get h2 hx
  refine ⟨⟨vs, v, hS, q1⟩, fun u H' ⟨e, y⟩ => ?_⟩
  subst e
  have : some v = some u := q1.symm.trans (y vs hS)
  cases this
  exact ⟨D, Ext.refl e2, A.mono e1 q2⟩
theorem itok_tup {α : Type} {K : Fr} {D1 : Hp} {A : Dt α} {xs : List α} {p : Addr} {vs : List L2.V} (h1 : SqT K D1 p vs) (h2 : Paired (A.rep K D1) xs vs) : ItOk K (Itt K p) D1 A xs := fun i H D e1 e2 => by
  have hS : SqT K H p vs := SqT.mono (e1.trans e2) h1
  refine ⟨fun x hx => ?_, fun hl => ⟨vs, hS, by rw [← h2.length]; exact hl⟩⟩
  obtain ⟨v, q1, q2⟩ := Paired.get h2 hx
  refine ⟨⟨vs, v, hS, q1⟩, fun u H' ⟨e, y⟩ => ?_⟩
  subst e
  have : some v = some u := q1.symm.trans (y vs hS)
  cases this
  exact ⟨D, Ext.refl e2, A.mono e1 q2⟩
/-- lo, lo + 1, .. n numbers -/
def rangeL (lo : Int) (n : Nat) : List Int := (List.range n).map fun i : Nat => lo + (i : Int)
theorem rangeL_get (lo : Int) (n i : Nat) : (rangeL lo n)[i]? = if i < n then some (lo + (i : Int)) else none := by
  unfold rangeL
  by_cases h : i < n
  · simp [h]
  · simp [h]
theorem rangeL_len (lo : Int) (n : Nat) : (rangeL lo n).length = n := by simp [rangeL]
theorem itok_range {K : Fr} {D1 : Hp} {lo : Int} {n : Nat} : ItOk K (Itr lo n) D1 tInt (rangeL lo n) := fun i H D e1 e2 => by
  refine ⟨fun x hx => ?_, fun hl => by rw [rangeL_len] at hl; exact hl⟩
  rw [rangeL_get] at hx
  by_cases h : i < n
  · rw [if_pos h] at hx
    cases hx
    refine ⟨h, fun u H' ⟨e, y⟩ => ?_⟩
    subst e
    exact ⟨D, Ext.refl e2, y⟩
  · rw [if_neg h] at hx; cases hx
section
variable {X : Cx} {G : Ctx} {Γ : Vw} {α β γ δ τ ρ θ C C' : Type} {a b c e it tg : Expr} {pos : Pos} {st : Stmt} {rest B : List Stmt} {R : Rp ρ} {Z : θ → Dest ρ}
theorem I_list {A : Dt α} {r : M (List α)} (h : ET X G Γ it (dat (tLst A)) r) : ITR X G Γ tg it A r := fun w =>
  (pi_list (h w)).weak fun σ H Q ⟨H0, D0, D, os, hr, x, hx, hp⟩ => ⟨H0, D0, D, os, hr, x, hx, by
    cases x with
    | ex e => exact hp
    | ok xs =>
      intro v H' D' fp e ⟨_, p, vs, r1, r2, r3⟩ f
      exact ⟨p, r1, ⟨vs, SqL.of (e.dh _ _ r2)⟩, hp _ H' D' e (itok_list (SqL.of r2) r3)⟩⟩
theorem I_tup {A : Dt α} {r : M (List α)} (h : ET X G Γ it (dat (tRow A)) r) : ITR X G Γ tg it A r := fun w =>
  (pi_tup (h w)).weak fun σ H Q ⟨H0, D0, D, os, hr, x, hx, hp⟩ => ⟨H0, D0, D, os, hr, x, hx, by
    cases x with
    | ex e => exact hp
    | ok xs =>
      intro v H' D' fp e ⟨_, p, vs, r1, r2, r3⟩ f
      exact ⟨p, r1, ⟨vs, SqT.mono e.dh r2⟩, hp _ H' D' e (itok_tup r2 r3)⟩⟩
def prange (j : Int) : M (List Int) := grd (j < 2 ^ 62) (ok (rangeL 0 j.toNat))
def prange2 (i j : Int) : M (List Int) := grd (-(2 ^ 62) ≤ i ∧ i < 2 ^ 62 ∧ -(2 ^ 62) ≤ j ∧ j < 2 ^ 62) (ok (rangeL i (j - i).toNat))
theorem I_range {ra : M Int} {p : Pos} (hm : X.mg "range" = none) (ha : ET X G Γ a (dat tInt) ra) (hg : Gl X "range" := by rfl) (hs : starEach [a] X.env = [(false, eval a X.env)] := by rfl) : ITR X G Γ tg (.Call (.Name "range" p) [a] [] pos) tInt (ra.bind fun j => grd (-(2 ^ 62) ≤ j) (prange j)) := fun w =>
  (pi_range1 hg hm (pa_cons (ha w) pa_nil hs) hs).weak fun σ H Q ⟨H0, D0, D, os, hr, x, hx, hp⟩ => by
    rcases bind_some hx with ⟨j, rfl, hf⟩ | ⟨e, rfl, rfl⟩
    · obtain ⟨g1, hf⟩ := grd_some hf
      obtain ⟨g2, hf⟩ := grd_some hf
      cases hf
      exact ⟨H0, D0, D, os, hr, _, rfl, fun v H' D' fp e ⟨_, r1⟩ f => ⟨j, by rw [show v = V.int j from r1], g1, g2, hp _ H' D' e itok_range⟩⟩
    · exact ⟨H0, D0, D, os, hr, _, rfl, hp⟩
theorem I_range2 {ra rb : M Int} {p : Pos} (hm : X.mg "range" = none) (ha : ET X G Γ a (dat tInt) ra) (hb : ET X G Γ b (dat tInt) rb) (hg : Gl X "range" := by rfl) (hs : starEach [a, b] X.env = [(false, eval a X.env), (false, eval b X.env)] := by rfl)
    (hs2 : starEach [b] X.env = [(false, eval b X.env)] := by rfl) : ITR X G Γ tg (.Call (.Name "range" p) [a, b] [] pos) tInt (ra.bind fun i => rb.bind fun j => prange2 i j) := fun w =>
  (pi_range2 hg hm (pa_cons (ha w) (pa_cons (hb w) pa_nil hs2) (by rw [hs, hs2])) hs hs2).weak fun σ H Q ⟨H0, D0, D, os, hr, x, hx, hp⟩ => by
    rcases bind_some hx with ⟨i, rfl, hf⟩ | ⟨e, rfl, rfl⟩
    · rcases bind_some hf with ⟨j, rfl, hf⟩ | ⟨e, rfl, rfl⟩
      · obtain ⟨g1, hf⟩ := grd_some hf
        cases hf
        exact ⟨H0, D0, D, os, hr, _, rfl, fun v H' D' fp e ⟨_, r1⟩ f => ⟨H0, D0, D', os, hr.grow e, _, rfl, fun v2 H2 D2 fp2 e2 ⟨_, r2⟩ f2 =>
          ⟨i, j, by rw [show v = V.int i from r1, show v2 = V.int j from r2], g1, hp _ H2 D2 (e.trans e2) itok_range⟩⟩⟩
      · exact ⟨H0, D0, D, os, hr, _, rfl, fun v H' D' fp e ⟨_, r1⟩ f => ⟨H0, D0, D', os, hr.grow e, _, rfl, hp⟩⟩
    · exact ⟨H0, D0, D, os, hr, _, rfl, hp⟩
theorem I_eq {A : Dt α} {r r' : M (List α)} (h : ITR X G Γ tg it A r) (e : r = r') : ITR X G Γ tg it A r' := e ▸ h
/-! ### targets -/
structure GT (X : Cx) (tg : Expr) (sl : List Nat) {α : Type} (A : Dt α) (u : α → Vw → Vw) (g : TG) : Prop where
  ex : X.N.Nodup → X.calm = true → PG X tg g ∧ ∀ (H0 D0 H D : Hp) (Γ : Vw) (σ : L2.St) (os : List Addr) (x : α) (v : L2.V) (Q : L2.St → Hp → Prop), σ.length = X.N.length → Rel X.K H0 D0 Γ σ H D os → A.rep X.K D x v →
    (∀ σ' os', σ'.length = X.N.length → (∀ vs, (∀ i ∈ sl, i ∈ vs) → wipe σ' vs = wipe σ vs) → Rel X.K H0 D0 (u x Γ) σ' H D os' → Q σ' H) → g v σ H Q
theorem wipe_set {σ : L2.St} {i : Nat} {w : Option L2.V} : ∀ {vs : List Nat}, i ∈ vs → wipe (σ.set i w) vs = wipe σ vs
  | [], h => nomatch h
  | v :: vs, h => by
    unfold wipe
    by_cases e : i ∈ vs
    · rw [wipe_set e]
    · have hv : i = v := by
        rcases List.mem_cons.mp h with z | z
        · exact z
        · exact absurd z e
      subst hv
      have : ∀ {us : List Nat}, i ∉ us → wipe (σ.set i w) us = (wipe σ us).set i w := fun {us} hu => by
        induction us with
        | nil => rfl
        | cons u us ih =>
          unfold wipe
          rw [ih (fun z => hu (List.mem_cons_of_mem _ z)), List.set_comm]
          exact fun z => hu (by rw [z]; exact List.mem_cons_self)
      rw [this e, List.set_set]
theorem wipe_wipe {σ : L2.St} {vs : List Nat} : ∀ (us : List Nat), (∀ i ∈ us, i ∈ vs) → wipe (wipe σ us) vs = wipe σ vs
  | [], _ => rfl
  | u :: us, h => by
    show wipe ((wipe σ us).set u none) vs = _
    rw [wipe_set (h u List.mem_cons_self), wipe_wipe us fun i hi => h i (List.mem_cons_of_mem _ hi)]
theorem G_name (i : Nat) {x : Str} {A : Dt α} {p : Pos} (hN : X.N[i]? = some x := by rfl) (hx : Loc X.env.scope x := by first | exact Or.inl rfl | exact Or.inr rfl)
    (hf : X.fn x = true ∨ X.env.scope.names.lookup x = some .local := by first | exact Or.inl rfl | exact Or.inr rfl) : GT X (.Name x p) [i] A (fun a Γ => put (eD i A a) Γ) (gName i) := ⟨fun nd _ => ⟨pg_name nd hN hx hf, fun H0 D0 H D Γ σ os x v Q hl hr h k => by
    have hi : i < σ.length := by rw [hl]; exact (List.getElem?_eq_some_iff.mp hN).1
    obtain ⟨os', q⟩ := hr.put (i := i) (R := dat A) (st := dat_st A) (a := x) (v := v) (fp := []) hi hr.ext.h (fun p h => (hr.own p h).2.2) ⟨rfl, h⟩ .nil
    exact k _ os' (by rw [List.length_set]; exact hl) (fun vs h => wipe_set (h i (by simp))) q⟩⟩
theorem G_rec2 {t1 t2 : Expr} {s1 s2 : List Nat} {A : Dt α} {B : Dt β} {u1 : α → Vw → Vw} {u2 : β → Vw → Vw} {g1 g2 : TG} {k : Nat} {p : Pos} (h1 : GT X t1 s1 A u1 g1) (h2 : GT X t2 s2 B u2 g2)
    (hs1 : (assignEach [t1, t2] X.env).map (·.2) = assign t1 X.env :: (assignEach [t2] X.env).map (·.2) := by rfl) (hs2 : (assignEach [t2] X.env).map (·.2) = assign t2 X.env :: (assignEach [] X.env).map (·.2) := by rfl)
    (hn : (assignEach [t1, t2] X.env).length = 2 := by rfl) (hst : (assignEach [t1, t2] X.env).findIdx? (·.1) = none := by rfl) : GT X (.Tuple [t1, t2] k p) (s1 ++ s2) (tRec2 A B) (fun x Γ => u2 x.2 (u1 x.1 Γ)) (gTup X.K 2 (gCons g1 (gCons g2 gNil))) := ⟨fun nd hc => by
    obtain ⟨p1, q1⟩ := h1.ex nd hc
    obtain ⟨p2, q2⟩ := h2.ex nd hc
    refine ⟨pg_tup hc (pgs_cons p1 (pgs_cons p2 pgs_nil hs2) hs1) hn hst, fun H0 D0 H D Γ σ os x v Q hl hr ⟨p, v1, v2, r1, r2, r3, r4⟩ k => ?_⟩
    refine ⟨p, [v1, v2], r1, SqT.mono hr.le r2, rfl, v1, [v2], rfl, q1 H0 D0 H D Γ σ os x.1 v1 _ hl hr r3 fun σ' os' hl' hw' hr' => ⟨v2, [], rfl, q2 H0 D0 H D _ σ' os' x.2 v2 _ hl' hr' r4 fun σ2 os2 hl2 hw2 hr2 => ⟨rfl, k σ2 os2 hl2 (fun vs h => ?_) hr2⟩⟩⟩
    rw [hw2 vs fun i hi => h i (List.mem_append_right _ hi), hw' vs fun i hi => h i (List.mem_append_left _ hi)]⟩
/-- target = e -/
theorem S_unpack {sl : List Nat} {A : Dt α} {u : α → Vw → Vw} {re : M α} {g : TG} (hg : GT X tg sl A u g) (he : ET X G Γ e (dat A) re) (hc : G.c = true := by rfl) (hs : swapsWithSole [tg] e pos.line X.env = pure false := by rfl) (hw : swappedStores [tg] e X.env = pure none := by rfl)
    (h1 : (assignEach [tg] X.env).map (·.2) = [assign tg X.env] := by rfl) : JS X G Γ (.Assign [tg] e pos) R (fun a => .nx (u a Γ)) re := fun w => by
  obtain ⟨p, q⟩ := hg.ex w.nd (w.calm hc)
  refine (ps_asg (he w) p hs hw h1).weakI fun E σ H hl ⟨H0, D0, D, os, hr, x, hx, hp⟩ => ⟨H0, D0, D, os, hr, x, hx, ?_⟩
  cases x with
  | ex e => exact fun c d => hp c d σ
  | ok t => exact fun v H' D' fp e r f => q H0 D0 H' D' Γ σ os t v _ hl (hr.grow e) r.2 fun σ' os' hl' _ hr' => hp σ' H' D' os' hr'
/-- a, b = e1, e2 -/
theorem S_par (i j : Nat) {x y : Str} {A : Dt α} {B : Dt β} {ra : M α} {rb : M β} {px py pt : Pos} {kt k2 pt2} (hij : i ≠ j) (ha : ET X G Γ a (dat A) ra) (hb : ET X G Γ b (dat B) rb) (hc : G.c = true := by rfl) (hi : X.N[i]? = some x := by rfl) (hj : X.N[j]? = some y := by rfl)
    (hx : X.env.scope.names.lookup x = some .local := by rfl) (hy : X.env.scope.names.lookup y = some .local := by rfl)
    (hw : swappedStores [.Tuple [.Name x px, .Name y py] kt pt] (.Tuple [a, b] k2 pt2) X.env = pure (some [x, y]) := by rfl) (hs : swapsWithSole [.Tuple [.Name x px, .Name y py] kt pt] (.Tuple [a, b] k2 pt2) pos.line X.env = pure false := by rfl)
    (hs1 : starEach [a, b] X.env = (false, eval a X.env) :: starEach [b] X.env := by rfl) (hs2 : starEach [b] X.env = [(false, eval b X.env)] := by rfl) :
    JS X G Γ (.Assign [.Tuple [.Name x px, .Name y py] kt pt] (.Tuple [a, b] k2 pt2) pos) R (fun t : α × β => .nx (put (eD j B t.2) (put (eD i A t.1) Γ))) (ra.bind fun u => rb.bind fun v => ok (u, v)) := fun w =>
  (ps_par (w.calm hc) w.nd hi hj hij hx hy (pa_cons (ha w) (pa_cons (hb w) pa_nil hs2) hs1) hw hs).weakI fun E σ H hl ⟨H0, D0, D, os, hr, x, hx, hp⟩ => by
    refine seqE (P := fun _ _ x => jPost X.K X.mg G H0 D0 R (fun t : α × β => Dest.nx (put (eD j B t.2) (put (eD i A t.1) Γ))) E x) hr hx hp (fun e h => fun c d => h c d σ) (fun _ _ _ h => h) fun z H1 D1 fp v _ hx1 e1 r1 f1 hr1 hp1 => ?_
    refine seqE (P := fun _ _ x => jPost X.K X.mg G H0 D0 R (fun t : α × β => Dest.nx (put (eD j B t.2) (put (eD i A t.1) Γ))) E x) hr1 hx1 hp1 (fun e h => fun c d => h c d σ) (fun _ _ _ h => h) fun z2 H2 D2 fp2 v2 _ hx2 e2 r2 f2 hr2 hp2 => ?_
    cases hx2
    have hi' : i < σ.length := by rw [hl]; exact (List.getElem?_eq_some_iff.mp hi).1
    have hj' : j < σ.length := by rw [hl]; exact (List.getElem?_eq_some_iff.mp hj).1
    refine ⟨v, v2, rfl, ?_⟩
    obtain ⟨os1, q1⟩ := hr2.put (i := i) (R := dat A) (st := dat_st A) (a := z) (v := v) (fp := []) hi' hr2.ext.h (fun p h => (hr2.own p h).2.2) ⟨rfl, A.mono e2.d r1.2⟩ .nil
    obtain ⟨os2, q2⟩ := q1.put (i := j) (R := dat B) (st := dat_st B) (a := z2) (v := v2) (fp := []) (by rw [List.length_set]; exact hj') q1.ext.h (fun p h => (q1.own p h).2.2) ⟨rfl, r2.2⟩ .nil
    exact hp2 _ H2 D2 os2 q2
/-! ### for -/
def loopM {α C : Type} (f : C → α → M C) : C → List α → M C
  | c, [] => ok c
  | c, x :: xs => (f c x).bind fun c' => loopM f c' xs
def flk {C ρ : Type} (k : C → M (Fl C ρ)) : Fl C ρ → M (Fl C ρ)
  | .nx c => k c
  | .rt a => ok (.rt a)
def loopF {α C ρ : Type} (f : C → α → M (Fl C ρ)) : C → List α → M (Fl C ρ)
  | c, [] => ok (.nx c)
  | c, x :: xs => (f c x).bind (flk fun c' => loopF f c' xs)
theorem PG.withLen {X : Cx} {tg : Expr} {g : TG} (h : PG X tg g) : PG X tg (fun v σ H Q => σ.length = X.N.length → g v σ H fun σ' H' => σ'.length = X.N.length → Q σ' H') := ⟨fun pins s σ H v u Q I r hq =>
  thn (h.run pins s σ H v u _ I r (hq I.len)) fun _ s' ⟨σ', H', I', q⟩ => ⟨σ', H', I', q I'.len⟩⟩
theorem S_forF {sl : List Nat} {A : Dt α} {u : α → Vw → Vw} {Γl : C → Vw} {ri : M (List α)} {b : C → α → M (Fl C ρ)} (is : List Nat) (c0 : C) {g : TG} (hi : ITR X G Γ tg it A ri) (hg : GT X tg sl A u g) (hb : ∀ c x, JB X G (u x (Γl c)) B R (ZF Γl) (b c x)) (hc : G.c = true := by rfl) (h0 : pick is Γ = Γl c0 := by rfl)
    (hs : ∀ x, foldedSetIterable it X.env x = pure x := by intro _; rfl) : JS X G Γ (.For tg it B [] pos) R (ZF Γl) (ri.bind fun xs => loopF b c0 xs) := fun w => by
  obtain ⟨p, q⟩ := hg.ex w.nd (w.calm hc)
  have hb' : PSs X B (fun E σ H => ∃ c x, tJ X.K X.mg G (u x (Γl c)) R (ZF Γl) (b c x) E σ H) := ⟨fun pins s σ H D I ⟨c, x, h⟩ => (hb c x w).run pins s σ H D I h⟩
  refine (ps_for w.po (w.calm hc) (hi w) (PG.withLen p) hb' hs).weak fun E σ H ⟨H0, D0, D, os, hr, x, hx, hp⟩ => ?_
  rcases bind_some hx with ⟨xs, rfl, hf⟩ | ⟨e, rfl, rfl⟩
  · refine ⟨H0, D0, D, os, hr, _, rfl, fun J H1 D1 e1 hJ => ?_⟩
    have hr1 := hr.grow e1
    obtain ⟨os1, hr2⟩ := hr1.pick is
    rw [h0] at hr2
    refine ⟨fun i m σ H => m = xs.length - i ∧ i ≤ xs.length ∧ ∃ c D os, Rel X.K H0 D0 (Γl c) σ H D os ∧ Le D1 D ∧ loopF b c (xs.drop i) = some x, ⟨_, rfl, Nat.zero_le _, c0, D1, os1, hr2, Same.refl _, hf⟩, ?_⟩
    rintro i m σ H ⟨rfl, hi, c, D, os, hr, hl, hx⟩
    obtain ⟨j1, j2⟩ := hJ i H D hl hr.le
    by_cases hlt : i < xs.length
    · right
      have hg : xs[i]? = some xs[i] := List.getElem?_eq_getElem hlt
      obtain ⟨k1, k2⟩ := j1 _ hg
      rw [List.drop_eq_getElem_cons hlt] at hx
      have hx : (b c xs[i]).bind (flk fun c' => loopF b c' (xs.drop (i + 1))) = some x := hx
      refine ⟨k1, fun σ' H' => ∃ c1 D' os', b c xs[i] = ok (.nx c1) ∧ Rel X.K H0 D0 (Γl c1) σ' H' D' os' ∧ Le D1 D', ?_, ?_⟩
      · rintro σ' H' ⟨c1, D', os', hb1, hr', hl'⟩
        rw [hb1] at hx
        exact ⟨xs.length - (i + 1), by omega, rfl, hlt, c1, D', os', hr', hl', hx⟩
      · intro v H' hy hlen
        obtain ⟨D', e', rv⟩ := k2 v H' hy
        have hr3 := hr.grow e'
        have dd : Le D0 D' := hr3.ext.d
        have oo : ∀ p, D0 p = none → H0 p ≠ none → D' p = none := hr3.ext.out
        refine q H0 D' H' D' (Γl c) σ os xs[i] v _ hlen hr3.rebase rv fun σ2 os2 hl2 _ hr4 _ => ⟨c, xs[i], H0, D', D', os2, hr4, ?_⟩
        rcases bind_some hx with ⟨f, hb1, hf1⟩ | ⟨e, hb1, rfl⟩
        · refine ⟨_, hb1, ?_⟩
          cases f with
          | nx c1 => exact fun σ' H' D2 os' r => ⟨c1, D2, os', hb1, r.unbase dd oo, (hl.trans e'.d).trans r.ext.d⟩
          | rt a =>
            cases (show ok (Fl.rt a) = some x from hf1)
            exact (hp.rebase dd oo)
        · exact ⟨_, hb1, fun c d σ' H' D2 os' r => hp c d σ' H' D2 os' (r.unbase dd oo)⟩
    · left
      have ei : xs.drop i = [] := List.drop_eq_nil_of_le (by omega)
      rw [ei] at hx
      cases hx
      exact ⟨j2 (by omega), hp σ H D os hr⟩
  · exact ⟨H0, D0, D, os, hr, _, rfl, fun c d H' D' os' r => hp c d σ H' D' os' r⟩
theorem S_for {sl : List Nat} {A : Dt α} {u : α → Vw → Vw} {Γl : C → Vw} {ri : M (List α)} {b : C → α → M C} (is : List Nat) (c0 : C) {g : TG} (hi : ITR X G Γ tg it A ri) (hg : GT X tg sl A u g) (hb : ∀ c x, JB X G (u x (Γl c)) B R (fun c => .nx (Γl c)) (b c x)) (hc : G.c = true := by rfl) (h0 : pick is Γ = Γl c0 := by rfl)
    (hs : ∀ x, foldedSetIterable it X.env x = pure x := by intro _; rfl) : JS X G Γ (.For tg it B [] pos) R (fun c => .nx (Γl c)) (ri.bind fun xs => loopM b c0 xs) := fun w => by
  obtain ⟨p, q⟩ := hg.ex w.nd (w.calm hc)
  have hb' : PSs X B (fun E σ H => ∃ c x, tJ X.K X.mg G (u x (Γl c)) R (fun c => Dest.nx (Γl c)) (b c x) E σ H) := ⟨fun pins s σ H D I ⟨c, x, h⟩ => (hb c x w).run pins s σ H D I h⟩
  refine (ps_for w.po (w.calm hc) (hi w) (PG.withLen p) hb' hs).weak fun E σ H ⟨H0, D0, D, os, hr, x, hx, hp⟩ => ?_
  rcases bind_some hx with ⟨xs, rfl, hf⟩ | ⟨e, rfl, rfl⟩
  · refine ⟨H0, D0, D, os, hr, _, rfl, fun J H1 D1 e1 hJ => ?_⟩
    have hr1 := hr.grow e1
    obtain ⟨os1, hr2⟩ := hr1.pick is
    rw [h0] at hr2
    refine ⟨fun i m σ H => m = xs.length - i ∧ i ≤ xs.length ∧ ∃ c D os, Rel X.K H0 D0 (Γl c) σ H D os ∧ Le D1 D ∧ loopM b c (xs.drop i) = some x, ⟨_, rfl, Nat.zero_le _, c0, D1, os1, hr2, Same.refl _, hf⟩, ?_⟩
    rintro i m σ H ⟨rfl, hi, c, D, os, hr, hl, hx⟩
    obtain ⟨j1, j2⟩ := hJ i H D hl hr.le
    by_cases hlt : i < xs.length
    · right
      have hg : xs[i]? = some xs[i] := List.getElem?_eq_getElem hlt
      obtain ⟨k1, k2⟩ := j1 _ hg
      rw [List.drop_eq_getElem_cons hlt] at hx
      have hx : (b c xs[i]).bind (fun c' => loopM b c' (xs.drop (i + 1))) = some x := hx
      refine ⟨k1, fun σ' H' => ∃ c1 D' os', b c xs[i] = ok c1 ∧ Rel X.K H0 D0 (Γl c1) σ' H' D' os' ∧ Le D1 D', ?_, ?_⟩
      · rintro σ' H' ⟨c1, D', os', hb1, hr', hl'⟩
        rw [hb1] at hx
        exact ⟨xs.length - (i + 1), by omega, rfl, hlt, c1, D', os', hr', hl', hx⟩
      · intro v H' hy hlen
        obtain ⟨D', e', rv⟩ := k2 v H' hy
        have hr3 := hr.grow e'
        have dd : Le D0 D' := hr3.ext.d
        have oo : ∀ p, D0 p = none → H0 p ≠ none → D' p = none := hr3.ext.out
        refine q H0 D' H' D' (Γl c) σ os xs[i] v _ hlen hr3.rebase rv fun σ2 os2 hl2 _ hr4 _ => ⟨c, xs[i], H0, D', D', os2, hr4, ?_⟩
        rcases bind_some hx with ⟨f, hb1, hf1⟩ | ⟨e, hb1, rfl⟩
        · exact ⟨_, hb1, fun σ' H' D2 os' r => ⟨f, D2, os', hb1, r.unbase dd oo, (hl.trans e'.d).trans r.ext.d⟩⟩
        · exact ⟨_, hb1, fun c d σ' H' D2 os' r => hp c d σ' H' D2 os' (r.unbase dd oo)⟩
    · left
      have ei : xs.drop i = [] := List.drop_eq_nil_of_le (by omega)
      rw [ei] at hx
      cases hx
      exact ⟨j2 (by omega), hp σ H D os hr⟩
  · exact ⟨H0, D0, D, os, hr, _, rfl, fun c d H' D' os' r => hp c d σ H' D' os' r⟩
/-! ### while -/
def whileN {C : Type} (t : C → M Bool) (b : C → M C) : Nat → C → M C
  | 0, _ => stuck
  | n + 1, c => (t c).bind fun z => if z = true then (b c).bind (whileN t b n) else ok c
theorem whileN_mono {C : Type} {t : C → M Bool} {b : C → M C} : ∀ (n : Nat) (c : C) (x : Rs C), whileN t b n c = some x → ∀ k, whileN t b (n + k) c = some x
  | 0, _, _, h, _ => nomatch h
  | n + 1, c, x, h, k => by
    rw [show n + 1 + k = (n + k) + 1 by omega]
    have h : (t c).bind (fun z => if z = true then (b c).bind (whileN t b n) else ok c) = some x := h
    show (t c).bind (fun z => if z = true then (b c).bind (whileN t b (n + k)) else ok c) = some x
    rcases bind_some h with ⟨z, ht, hf⟩ | ⟨e, ht, rfl⟩
    · rw [ht, bind_ok]
      cases z with
      | false => exact hf
      | true =>
        have hf : (b c).bind (whileN t b n) = some x := hf
        show (b c).bind (whileN t b (n + k)) = some x
        rcases bind_some hf with ⟨c1, hb, hg⟩ | ⟨e, hb, rfl⟩
        · rw [hb]; exact whileN_mono n c1 x hg k
        · rw [hb]; rfl
    · rw [ht]; rfl
open Classical in
noncomputable def pickR {α : Type} (P : α → Prop) : Option α := if h : ∃ x, P x then some (Classical.choose h) else none
theorem pickR_pos {α : Type} {P : α → Prop} {x : α} (h : P x) (u : ∀ y, P y → y = x) : pickR P = some x := by
  have he : ∃ x, P x := ⟨x, h⟩
  unfold pickR
  rw [dif_pos he, u _ (Classical.choose_spec he)]
theorem pickR_neg {α : Type} {P : α → Prop} (h : ¬ ∃ x, P x) : pickR P = none := by
  unfold pickR
  rw [dif_neg h]
theorem pickR_some {α : Type} {P : α → Prop} {x : α} (h : pickR P = some x) : P x := by
  by_cases he : ∃ x, P x
  · unfold pickR at h
    rw [dif_pos he] at h
    cases h
    exact Classical.choose_spec he
  · rw [pickR_neg he] at h; cases h
def Runs {C : Type} (t : C → M Bool) (b : C → M C) (c : C) (x : Rs C) : Prop := ∃ n, whileN t b n c = some x
/-- first with fuel, so that the kernel can run it -/
noncomputable def whileM {C : Type} (t : C → M Bool) (b : C → M C) (c : C) : M C := match whileN t b 4000 c with
  | some x => some x
  | none => pickR (Runs t b c)
theorem whileM_none {C : Type} {t : C → M Bool} {b : C → M C} {c : C} (h : ∀ n x, whileN t b n c ≠ some x) : whileM t b c = none := by
  unfold whileM
  cases q : whileN t b 4000 c with
  | none => exact pickR_neg fun ⟨x, n, e⟩ => h n x e
  | some x => exact absurd q (h _ _)
theorem whileN_det {C : Type} {t : C → M Bool} {b : C → M C} {n m : Nat} {c : C} {x y : Rs C} (h : whileN t b n c = some x) (h2 : whileN t b m c = some y) : y = x := by
  have q1 := whileN_mono _ _ _ h2 n
  have q2 := whileN_mono _ _ _ h m
  rw [Nat.add_comm] at q2
  exact Option.some.inj (q1.symm.trans q2)
theorem whileM_of {C : Type} {t : C → M Bool} {b : C → M C} {n : Nat} {c : C} {x : Rs C} (h : whileN t b n c = some x) : whileM t b c = some x := by
  unfold whileM
  cases q : whileN t b 4000 c with
  | none => exact pickR_pos (P := Runs t b c) ⟨n, h⟩ fun y ⟨m, h2⟩ => whileN_det h h2
  | some y => exact congrArg some (whileN_det h q)
theorem whileM_some {C : Type} {t : C → M Bool} {b : C → M C} {c : C} {x : Rs C} (h : whileM t b c = some x) : ∃ n, whileN t b n c = some x := by
  unfold whileM at h
  cases q : whileN t b 4000 c with
  | none => rw [q] at h; exact pickR_some (P := Runs t b c) h
  | some y => rw [q] at h; cases h; exact ⟨_, q⟩
theorem whileM_eq {C : Type} (t : C → M Bool) (b : C → M C) (c : C) : whileM t b c = (t c).bind fun z => if z = true then (b c).bind (whileM t b) else ok c := by
  cases ht : t c with
  | none =>
    have : ∀ n x, whileN t b n c ≠ some x := fun n x h => by
      cases n with
      | zero => cases h
      | succ n => unfold whileN at h; rw [ht] at h; cases h
    rw [whileM_none this]
    rfl
  | some r =>
    cases r with
    | ex e => exact whileM_of (n := 1) (by unfold whileN; rw [ht]; rfl)
    | ok z =>
      cases z with
      | false => exact whileM_of (n := 1) (by unfold whileN; rw [ht]; rfl)
      | true =>
        show _ = (b c).bind (whileM t b)
        have step : ∀ n, whileN t b (n + 1) c = (b c).bind (whileN t b n) := fun n => by
          show (t c).bind _ = _
          rw [ht]; rfl
        cases hb : b c with
        | none =>
          have : ∀ n x, whileN t b n c ≠ some x := fun n x h => by
            cases n with
            | zero => cases h
            | succ n => rw [step, hb] at h; cases h
          rw [whileM_none this]
          rfl
        | some r =>
          cases r with
          | ex e => exact whileM_of (n := 1) (by rw [step, hb]; rfl)
          | ok c1 =>
            show _ = whileM t b c1
            cases hw : whileM t b c1 with
            | none =>
              cases hw2 : whileM t b c with
              | none => rfl
              | some x =>
                obtain ⟨n, h⟩ := whileM_some hw2
                cases n with
                | zero => cases h
                | succ n =>
                  rw [step, hb] at h
                  rw [whileM_of (show whileN t b n c1 = some x from h)] at hw
                  cases hw
            | some x =>
              obtain ⟨n, h⟩ := whileM_some hw
              exact whileM_of (n := n + 1) (by rw [step, hb]; exact h)
theorem S_while {Γl : C → Vw} {t : C → M Bool} {b : C → M C} (is : List Nat) (c0 : C) (ht : ∀ c, BT X G (Γl c) a (t c)) (hb : ∀ c, JB X G (Γl c) B R (fun c => .nx (Γl c)) (b c)) (h0 : pick is Γ = Γl c0 := by rfl) :
    JS X G Γ (.While a B [] pos) R (fun c => .nx (Γl c)) (whileM t b c0) := fun w => by
  have ht' : PT X a (fun σ H Q => ∃ c, tB X.K X.mg G (Γl c) (t c) σ H Q) := ⟨fun pins s σ H Q I ⟨c, h⟩ => (ht c w).run pins s σ H Q I h⟩
  have hb' : PSs X B (fun E σ H => ∃ c, tJ X.K X.mg G (Γl c) R (fun c => Dest.nx (Γl c)) (b c) E σ H) := ⟨fun pins s σ H D I ⟨c, h⟩ => (hb c w).run pins s σ H D I h⟩
  refine (ps_while w.po ht' hb').weak fun E σ H ⟨H0, D0, D, os, hr, x, hx, hp⟩ => ?_
  obtain ⟨n, hn⟩ := whileM_some hx
  obtain ⟨os1, hr1⟩ := hr.pick is
  rw [h0] at hr1
  refine ⟨fun m σ H => ∃ c D os, Rel X.K H0 D0 (Γl c) σ H D os ∧ whileN t b m c = some x, ⟨n, c0, D, os1, hr1, hn⟩, ?_⟩
  rintro m σ H ⟨c, D, os, hr, hx⟩
  cases m with
  | zero => cases hx
  | succ m =>
    have hx : (t c).bind (fun z => if z = true then (b c).bind (whileN t b m) else ok c) = some x := hx
    refine ⟨c, seqB (P := fun _ _ x => jPost X.K X.mg G H0 D0 R (fun c => Dest.nx (Γl c)) E x) hr hx hp (fun e h => fun c d => h c d σ) (fun _ _ _ h => h) fun z H1 D1 _ hx1 e1 hr1 hp1 => ?_⟩
    cases z with
    | false => cases hx1; exact hp1 σ H1 D1 os hr1
    | true =>
      have hx1 : (b c).bind (whileN t b m) = some x := hx1
      refine ⟨fun σ' H' => ∃ c1 D' os', b c = ok c1 ∧ Rel X.K H0 D0 (Γl c1) σ' H' D' os', ?_, c, H0, D0, D1, os, hr1, ?_⟩
      · rintro σ' H' ⟨c1, D', os', hb1, hr'⟩
        rw [hb1] at hx1
        exact ⟨m, Nat.lt_succ_self _, c1, D', os', hr', hx1⟩
      · rcases bind_some hx1 with ⟨f, hb1, hf1⟩ | ⟨e, hb1, rfl⟩
        · exact ⟨_, hb1, fun σ' H' D2 os' r => ⟨f, D2, os', hb1, r⟩⟩
        · exact ⟨_, hb1, hp1⟩
end
end T
set_option maxRecDepth 100000
set_option maxHeartbeats 4000000
namespace T
open PySem PySem.Spec PyProof.Rows L2
section
variable {X : Cx} {G : Ctx} {Γ : Vw} {α β γ δ τ ρ θ C C' : Type} {a b c e it tg : Expr} {pos : Pos} {st : Stmt} {rest B : List Stmt} {R : Rp ρ} {Z : θ → Dest ρ}
/-! ### lists made of lists -/
theorem Paired.append {F : α → L2.V → Prop} {ys : List α} {ws : List L2.V} (h : Paired F ys ws) : ∀ {xs : List α} {vs : List L2.V}, Paired F xs vs → Paired F (xs ++ ys) (vs ++ ws)
  | _, _, .nil => h
  | _, _, .cons r t => .cons r (Paired.append h t)
theorem Paired.take {F : α → L2.V → Prop} : ∀ {xs : List α} {vs : List L2.V} (n : Nat), Paired F xs vs → Paired F (xs.take n) (vs.take n)
  | _, _, 0, _ => .nil
  | _, _, n + 1, .nil => .nil
  | _, _, n + 1, .cons r t => .cons r (Paired.take n t)
theorem Paired.drop {F : α → L2.V → Prop} : ∀ {xs : List α} {vs : List L2.V} (n : Nat), Paired F xs vs → Paired F (xs.drop n) (vs.drop n)
  | _, _, 0, h => h
  | _, _, n + 1, .nil => .nil
  | _, _, n + 1, .cons r t => Paired.drop n t
theorem Paired.rep {F : α → L2.V → Prop} {xs : List α} {vs : List L2.V} (h : Paired F xs vs) : ∀ k : Nat, Paired F (List.replicate k xs).flatten (List.replicate k vs).flatten
  | 0 => .nil
  | k + 1 => by
    rw [List.replicate_succ, List.replicate_succ, List.flatten_cons, List.flatten_cons]
    exact Paired.append (Paired.rep h k) h
theorem Paired.reverse {F : α → L2.V → Prop} : ∀ {xs : List α} {vs : List L2.V}, Paired F xs vs → Paired F xs.reverse vs.reverse
  | _, _, .nil => .nil
  | _, _, .cons r t => by
    rw [List.reverse_cons, List.reverse_cons]
    exact Paired.snoc r (Paired.reverse t)
/-- the end of a rule that makes a new list -/
theorem own_new {K : Fr} {H D : Hp} {A : Dt α} {xs : List α} {vs : List L2.V} {Q : VK} {p : Addr} (le : Le D H) (np : H p = none) (h : Paired (A.rep K D) xs vs) (k : ∀ v H' D' fp, Ext H D H' D' → (own A).rep K H' D' fp xs v → Frs H D' H' fp → Q v H') : Q (.ref p) (upd H p (.lst vs)) :=
  k (.ref p) _ D [p] (Ext.fresh le np) ⟨p, vs, rfl, rfl, upd_same, h⟩ ⟨by simp, fun q hq => by
    have : q = p := by simpa using hq
    subst this
    exact ⟨np, le.free np, by rw [upd_same]; simp⟩⟩
theorem row_new {K : Fr} {H D : Hp} {A : Dt α} {xs : List α} {vs : List L2.V} {Q : VK} {p : Addr} (le : Le D H) (np : H p = none) (h : Paired (A.rep K D) xs vs) (k : ∀ v H' D' fp, Ext H D H' D' → (dat (tRow A)).rep K H' D' fp xs v → Frs H D' H' fp → Q v H') : Q (.ref p) (upd H p (.tup vs)) :=
  k (.ref p) _ (upd D p (.tup vs)) [] (Ext.laid le np) ⟨rfl, p, vs, rfl, .inl (.inl upd_same), A.monos (Same.upd (le.free np)) h⟩ .nil
def pcat {α : Type} (xs ys : List α) : M (List α) := grd (xs.length + ys.length ≤ sizeLine) (ok (xs ++ ys))
/-- a list that stands and may be changed or not, to be read at once -/
def borT {α : Type} (A : Dt α) : Rp (List α) := ⟨fun K H D fp xs v => fp = [] ∧ ∃ p vs, v = .ref p ∧ H p = some (.lst vs) ∧ Paired (A.rep K D) xs vs,
  fun e d ⟨h0, p, vs, h1, h3, h4⟩ => ⟨h0, p, vs, h1, e _ _ h3, A.monos d h4⟩⟩
theorem E_borT {A : Dt α} {r : M (List α)} (h : ET X G Γ a (dat (tLst A)) r) : ET X G Γ a (borT A) r := fun w =>
  (h w).weak fun σ H Q ⟨H0, D0, D, os, hr, x, hx, hp⟩ => ⟨H0, D0, D, os, hr, x, hx, by
    cases x with
    | ex e => exact hp
    | ok xs => exact fun v H' D' fp e ⟨h0, p, vs, r1, r3, r4⟩ f => hp v H' D' [] e ⟨rfl, p, vs, r1, e.dh _ _ r3, r4⟩ .nil⟩
theorem E_borTF {A : Dt α} {r : M (List α)} (h : ET X G Γ a (own A) r) : ET X G Γ a (borT A) r := E_borT (E_frz h)
theorem E_ownT (i : Nat) {x : Str} {A : Dt α} {val : List α} {p : Pos} (hf : find i Γ = some (eO i A val) := by rfl) (hN : X.N[i]? = some x := by rfl) (hv : Vis X.env.scope x := by first | exact Or.inl rfl | exact Or.inr (Or.inl rfl) | exact Or.inr (Or.inr rfl))
    (hd : (x == ("__debug__" : Str)) = false := by decide) (hcd : (x == ("__classdict__" : Str)) = false := by decide) : ET X G Γ (.Name x p) (borT A) (ok val) := fun w =>
  (pe_var hN hv hd hcd).weak fun σ H Q ⟨H0, D0, D, os, hr, x, hx, hp⟩ => by
    cases hx
    obtain ⟨fp, os', v, q1, ⟨p, vs, r1, r2, r3, r4⟩, _, _, _⟩ := hr.hold.find hf hr.nd
    exact ⟨v, q1, hp v H D [] (Ext.refl hr.le) ⟨rfl, p, vs, r1, r3, r4⟩ .nil⟩
theorem E_cat {A : Dt α} {ra rb : M (List α)} (ha : ET X G Γ a (borT A) ra) (hb : ET X G Γ b (borT A) rb) : ET X G Γ (.BinOp a .Add b pos) (own A) (ra.bind fun x => rb.bind fun y => pcat x y) :=
  E_op2 (A := borT A) (B := borT A) (R := own A) op_cat (fun H D xs ys va vb fa fb c Q le ⟨_, p, vs, z1, h1, h2⟩ ⟨_, q, ws, z2, h3, h4⟩ hg k => by
    obtain ⟨g1, g2⟩ := grd_ok hg
    cases g2
    exact ⟨p, q, vs, ws, z1, z2, h1, h3, by rw [← h2.length, ← h4.length]; exact g1, fun r nr => own_new le nr (Paired.append h4 h2) k⟩) (fun _ _ _ => grd_nx (fun z => nomatch z)) ha hb
def prep {α : Type} (xs : List α) (k : Int) : M (List α) := grd (-(2 ^ 63) ≤ k ∧ k < 2 ^ 63 ∧ xs.length * k.toNat ≤ sizeLine) (ok (List.replicate k.toNat xs).flatten)
theorem E_rep {A : Dt α} {ra : M (List α)} {rb : M Int} (ha : ET X G Γ a (borT A) ra) (hb : ET X G Γ b (dat tInt) rb) : ET X G Γ (.BinOp a .Mult b pos) (own A) (ra.bind fun x => rb.bind fun y => prep x y) :=
  E_op2 (A := borT A) (B := dat tInt) (R := own A) op_rep (fun H D xs k va vb fa fb c Q le ⟨_, p, vs, z1, h1, h2⟩ ⟨_, z2⟩ hg q => by
    obtain ⟨⟨g1, g2, g3⟩, g4⟩ := grd_ok hg
    cases g4
    exact ⟨p, k, vs, z1, z2, h1, g1, g2, by rw [← h2.length]; exact g3, fun r nr => own_new le nr (Paired.rep h2 _) q⟩) (fun _ _ _ => grd_nx (fun z => nomatch z)) ha hb
/-- list(x) -/
theorem E_listL {A : Dt α} {ra : M (List α)} {p : Pos} (hm : X.mg "list" = none) (ha : ET X G Γ a (bor A) ra) (hg : Gl X "list" := by rfl) (hs1 : starEach [a] X.env = [(false, eval a X.env)] := by rfl) :
    ET X G Γ (.Call (.Name "list" p) [a] [] pos) (own A) (ra.bind fun x => ok x) := E_ty1 (A := bor A) (R := own A) call_list_of (fun H D a va fa c Q le ⟨_, p, vs, z, h1, h2⟩ hg k => by
    cases hg
    exact ⟨p, vs, by rw [z], .inl h1, fun l nl => own_new le nl h2 k⟩) nxok hm (by decide +kernel) ha hg (by decide) (by decide) hs1 rfl
theorem E_listT {A : Dt α} {ra : M (List α)} {p : Pos} (hm : X.mg "list" = none) (ha : ET X G Γ a (dat (tRow A)) ra) (hg : Gl X "list" := by rfl) (hs1 : starEach [a] X.env = [(false, eval a X.env)] := by rfl) :
    ET X G Γ (.Call (.Name "list" p) [a] [] pos) (own A) (ra.bind fun x => ok x) := E_ty1 (A := dat (tRow A)) (R := own A) call_list_of (fun H D a va fa c Q le ⟨_, p, vs, z, h1, h2⟩ hg k => by
    cases hg
    exact ⟨p, vs, by rw [z], .inr (SqT.mono le h1), fun l nl => own_new le nl h2 k⟩) nxok hm (by decide +kernel) ha hg (by decide) (by decide) hs1 rfl
theorem E_tupleL {A : Dt α} {ra : M (List α)} {p : Pos} (hm : X.mg "tuple" = none) (ha : ET X G Γ a (bor A) ra) (hg : Gl X "tuple" := by rfl) (hs1 : starEach [a] X.env = [(false, eval a X.env)] := by rfl) :
    ET X G Γ (.Call (.Name "tuple" p) [a] [] pos) (dat (tRow A)) (ra.bind fun x => ok x) := E_ty1 (A := bor A) (R := dat (tRow A)) call_tuple_of (fun H D a va fa c Q le ⟨_, p, vs, z, h1, h2⟩ hg k => by
    cases hg
    exact ⟨p, vs, by rw [z], .inl ⟨h1, fun l nl => row_new le nl h2 k⟩⟩) nxok hm (by decide +kernel) ha hg (by decide) (by decide) hs1 rfl
/-! ### slices -/
def cutL {α : Type} (xs : List α) (lo hi : Option Int) : List α := (xs.drop (HT.sIx xs.length 0 lo)).take (HT.sIx xs.length xs.length hi - HT.sIx xs.length 0 lo)
theorem cutV_paired {F : α → L2.V → Prop} {xs : List α} {vs : List L2.V} (h : Paired F xs vs) (lo hi : Option Int) : Paired F (cutL xs lo hi) (cutV vs lo hi) := by
  unfold cutL cutV
  rw [h.length]
  exact Paired.take _ (Paired.drop _ h)
/-- a part of a slice -/
def OT (X : Cx) (G : Ctx) (Γ : Vw) (e : Option Expr) (r : M (Option Int)) : Prop := Wf X G → PO X e (fun σ H Q => ∃ H0 D0 D os, Rel X.K H0 D0 Γ σ H D os ∧ ∃ x, r = some x ∧ match x with
    | .ok o => ∀ H' D', Ext H D H' D' → Q o H'
    | .ex e => ∀ c d H' D' os', Rel X.K H0 D0 G.Vx σ H' D' os' → XRep X.K X.mg D' e c d → G.W c d σ H')
theorem _root_.L2.PO.weak {X : Cx} {e : Option Expr} {t t' : TO} (h : PO X e t) (w : ∀ σ H Q, t' σ H Q → t σ H Q) : PO X e t' := ⟨fun pins s σ H Q I hq => h.run pins s σ H Q I (w _ _ _ hq)⟩
theorem O_none : OT X G Γ none (ok none) := fun w => po_none.weak fun σ H Q ⟨H0, D0, D, os, hr, x, hx, hp⟩ => by
  cases hx
  exact hp H D (Ext.refl hr.le)
theorem O_some {ra : M Int} (ha : ET X G Γ a (dat tInt) ra) : OT X G Γ (some a) (ra.bind fun x => ok (some x)) := fun w => (po_some (ha w)).weak fun σ H Q ⟨H0, D0, D, os, hr, x, hx, hp⟩ => by
  rcases bind_some hx with ⟨i, rfl, hf⟩ | ⟨e, rfl, rfl⟩
  · cases hf
    exact ⟨H0, D0, D, os, hr, _, rfl, fun v H' D' fp e ⟨_, r⟩ f => ⟨i, r, hp H' D' e⟩⟩
  · exact ⟨H0, D0, D, os, hr, _, rfl, hp⟩
theorem E_sl {r : L2.V → Option Int → Option Int → Hp → VK → Prop} {A : Rp α} {Q' : Rp γ} {g : α → Option Int → Option Int → M γ} {ra : M α} {rl rh : M (Option Int)} {lo hi : Option Expr} {p2 : Pos} (hr' : SlR X r) (ha : ET X G Γ a A ra) (hl : OT X G Γ lo rl) (hh : OT X G Γ hi rh)
    (nx : ∀ x l h e, g x l h ≠ exc e) (hs : ∀ (H D : Hp) x v f l h c Q, Le D H → A.rep X.K H D f x v → g x l h = ok c → (∀ v H' D' fp, Ext H D H' D' → Q'.rep X.K H' D' fp c v → Frs H D' H' fp → Q v H') → r v l h H Q) :
    ET X G Γ (.Subscript a (.Slice lo hi none p2) pos) Q' (ra.bind fun x => rl.bind fun l => rh.bind fun h => g x l h) := fun w =>
  (pe_slice hr' (ha w) (hl w) (hh w)).weak fun σ H Q ⟨H0, D0, D, os, hr, x, hx, hp⟩ =>
    seqEE hr hx hp fun i H1 D1 fp v _ hx1 e1 r1 f1 hr1 hp1 => by
      rcases bind_some hx1 with ⟨l, rfl, hf⟩ | ⟨e, rfl, rfl⟩
      · refine ⟨H0, D0, D1, os, hr1, _, rfl, fun H2 D2 e2 => ?_⟩
        have hr2 := hr1.grow e2
        have hp2 := hp1.grow e2
        rcases bind_some hf with ⟨h, rfl, hf⟩ | ⟨e, rfl, rfl⟩
        · refine ⟨H0, D0, D2, os, hr2, _, rfl, fun H3 D3 e3 => ?_⟩
          have hr3 := hr2.grow e3
          have hp3 := hp2.grow e3
          cases x with
          | ok c => exact hs H3 D3 i v fp l h c Q hr3.le (A.mono (e2.h.trans e3.h) (e2.d.trans e3.d) r1) hf hp3
          | ex e => exact absurd hf (nx _ _ _ _)
        · exact ⟨H0, D0, D2, os, hr2, _, rfl, hp2⟩
      · exact ⟨H0, D0, D1, os, hr1, _, rfl, hp1⟩
theorem E_slL {A : Dt α} {ra : M (List α)} {rl rh : M (Option Int)} {lo hi : Option Expr} {p2 : Pos} (ha : ET X G Γ a (bor A) ra) (hl : OT X G Γ lo rl) (hh : OT X G Γ hi rh) :
    ET X G Γ (.Subscript a (.Slice lo hi none p2) pos) (own A) (ra.bind fun x => rl.bind fun l => rh.bind fun h => ok (cutL x l h)) :=
  E_sl (A := bor A) (Q' := own A) (g := fun x l h => ok (cutL x l h)) sl_list ha hl hh (fun _ _ _ _ z => nomatch z) fun H D x v f l h c Q le ⟨_, p, vs, z, h1, h2⟩ hg k => by
    cases hg
    exact ⟨p, vs, z, h1, fun q nq => own_new le nq (cutV_paired h2 l h) k⟩
end
end T
set_option maxRecDepth 100000
set_option maxHeartbeats 4000000
namespace T
open PySem PySem.Spec PyProof.Rows L2
/-! ### comprehensions -/
def noX {α : Type} (m : M α) : M α := match m with
  | some (.ok a) => ok a
  | _ => none
theorem noX_ok {α : Type} (a : α) : noX (ok a) = ok a := rfl
theorem noX_some {α : Type} {m : M α} {x : Rs α} (h : noX m = some x) : ∃ a, m = ok a ∧ x = .ok a := by
  cases m with
  | none => cases h
  | some r =>
    cases r with
    | ok a => cases h; exact ⟨a, rfl, rfl⟩
    | ex e => cases h
/-- t: the test, f: the element -/
def compG {α β : Type} (t : α → M Bool) (f : α → M β) : List α → M (List β)
  | [] => ok []
  | x :: xs => (noX (t x)).bind fun b => if b = true then (noX (f x)).bind fun y => (compG t f xs).bind fun r => ok (y :: r) else compG t f xs
def compL {α β : Type} (t : α → M Bool) (f : α → M β) (xs : List α) : M (List β) := (compG t f xs).bind psz
/-- without a test -/
def mapC {α β : Type} (f : α → M β) (xs : List α) : M (List β) := compL (fun _ => ok true) f xs
theorem compG_nx {α β : Type} {t : α → M Bool} {f : α → M β} : ∀ (xs : List α) (e : Ex), compG t f xs ≠ exc e
  | [], e, h => nomatch h
  | x :: xs, e, h => by
    have h : (noX (t x)).bind (fun b => if b = true then (noX (f x)).bind fun y => (compG t f xs).bind fun r => ok (y :: r) else compG t f xs) = some (.ex e) := h
    rcases bind_some h with ⟨b, h1, h2⟩ | ⟨e', h1, _⟩
    · cases b with
      | true =>
        have h2 : (noX (f x)).bind (fun y => (compG t f xs).bind fun r => ok (y :: r)) = some (.ex e) := h2
        rcases bind_some h2 with ⟨y, h3, h4⟩ | ⟨e', h3, _⟩
        · rcases bind_some h4 with ⟨r, h5, h6⟩ | ⟨e', h5, _⟩
          · cases h6
          · exact compG_nx xs e' h5
        · obtain ⟨a, _, z⟩ := noX_some (show noX (f x) = some (.ex e') from h3)
          cases z
      | false => exact compG_nx xs e h2
    · obtain ⟨a, _, z⟩ := noX_some (show noX (t x) = some (.ex e') from h1)
      cases z
section
variable {X : Cx} {G : Ctx} {Γ : Vw} {α β γ δ τ ρ θ C C' : Type} {a b c e it tg elt : Expr} {pos : Pos} {st : Stmt} {rest B : List Stmt} {R : Rp ρ} {Z : θ → Dest ρ} {ifs : List Expr}
def BTs (X : Cx) (G : Ctx) (Γ : Vw) (ifs : List Expr) (r : M Bool) : Prop := Wf X G → PTs X ifs (tB X.K X.mg G Γ r)
theorem Bs_nil : BTs X G Γ [] (ok true) := fun w => ⟨fun pins s σ H Q I ⟨H0, D0, D, os, hr, x, hx, hp⟩ => by
  cases hx
  exact wpAny_tests_nil ⟨H, I, hp H D (Ext.refl hr.le)⟩⟩
theorem Bs_one {r : M Bool} (h : BT X G Γ c r) : BTs X G Γ [c] r := fun w => pts_one (h w)
def rmvs : List Nat → Vw → Vw
  | [], Γ => Γ
  | i :: is, Γ => rmv i (rmvs is Γ)
theorem Hold.wipe {K : Fr} {H D : Hp} {σ : L2.St} {Γ : Vw} {os : List Addr} : ∀ (vs : List Nat), os.Nodup → Hold K H D σ Γ os → ∃ os', Hold K H D (wipe σ vs) (rmvs vs Γ) os' ∧ os'.Nodup ∧ ∀ p ∈ os', p ∈ os
  | [], nd, h => ⟨os, h, nd, fun _ z => z⟩
  | v :: vs, nd, h => by
    obtain ⟨o1, q1, q2, q3⟩ := Hold.wipe vs nd h
    obtain ⟨o2, p1, p2, p3⟩ := q1.rmv v q2
    exact ⟨o2, p1.set, p2, fun p hp => q3 p (p3 p hp)⟩
theorem Rel.wipe {K : Fr} {H0 D0 H D : Hp} {σ : L2.St} {os : List Addr} (r : Rel K H0 D0 Γ σ H D os) (vs : List Nat) : ∃ os', Rel K H0 D0 (rmvs vs Γ) (L2.wipe σ vs) H D os' := by
  obtain ⟨o1, q1, q2, q3⟩ := r.hold.wipe vs r.nd
  exact ⟨o1, r.ext, fun p hp => r.own p (q3 p hp), q2, q1⟩
abbrev Ctx.blk (G : Ctx) : Ctx := ⟨fun _ _ _ _ => False, [], G.k, G.c⟩
theorem Wf.blk (w : Wf X G) (s : Shared) (H : Hp) (scope : Scope) (cenv : Env) (fp : List Addr) : Wf (X.blk s H scope cenv fp) G.blk :=
  ⟨takes0, w.nd, w.room, w.calm, w.hu, PassesOwn.never⟩
/-- the reading of a comprehension from ours -/
theorem comp_weak {A : Dt α} {B : Dt β} {u : α → Vw → Vw} {ri : M (List α)} {t : α → M Bool} {f : α → M β} {vs : List Nat} {g : TG}
    (N : Nat) (hg : ∀ (H0 D0 H D : Hp) (Γ : Vw) (σ : L2.St) (os : List Addr) (x : α) (v : L2.V) (Q : L2.St → Hp → Prop), σ.length = N → Rel X.K H0 D0 Γ σ H D os → A.rep X.K D x v →
      (∀ σ' os', σ'.length = N → (wipe σ' vs = wipe σ vs) → Rel X.K H0 D0 (u x Γ) σ' H D os' → Q σ' H) → g v σ H Q)
    (σ : L2.St) (H : Hp) (Q : VK) (hl : σ.length = N) (h : tE X.K X.mg G Γ (own B) (ri.bind fun xs => compL t f xs) σ H Q) :
    tLc (tI X.K X.mg G Γ A ri) g (fun σ H Q => ∃ x, tB X.K X.mg G.blk (u x (rmvs vs Γ)) (t x) σ H Q) (fun σ H Q => ∃ x, tE X.K X.mg G.blk (u x (rmvs vs Γ)) (dat B) (f x) σ H Q) vs σ H Q := by
  obtain ⟨H0, D0, D, os, hr, x, hx, hp⟩ := h
  rcases bind_some hx with ⟨xs, rfl, hf⟩ | ⟨e, rfl, rfl⟩
  · refine ⟨H0, D0, D, os, hr, _, rfl, fun J H1 D1 e1 hJ Dl nD => ?_⟩
    rcases bind_some hf with ⟨res, hres, hsz⟩ | ⟨e, he, _⟩
    · obtain ⟨sz, e0⟩ := grd_some hsz
      cases e0
      have hr1 := hr.grow e1
      have nD1 : D1 Dl = none := e1.dh.free nD
      have hp1 := hp.grow e1
      -- Pv: so many are taken, the new list holds acc
      refine ⟨fun i m H => m = xs.length - i ∧ i ≤ xs.length ∧ ∃ acc vacc rest D2, H Dl = some (.lst vacc) ∧ Ext H1 D1 H D2 ∧ D2 Dl = none ∧ Paired (B.rep X.K D2) acc vacc ∧ compG t f (xs.drop i) = ok rest ∧ res = acc ++ rest,
        ⟨_, rfl, Nat.zero_le _, [], [], res, D1, upd_same, Ext.fresh e1.dh nD, nD1, .nil, hres, rfl⟩, ?_⟩
      rintro i m H2 ⟨rfl, hi, acc, vacc, rest, D2, hD, e2, nD2, hpa, hc, hres2⟩
      have hr2 := hr1.grow e2
      obtain ⟨j1, j2⟩ := hJ i H2 D2 e2.d e2.dh
      by_cases hlt : i < xs.length
      · right
        have hgx : xs[i]? = some xs[i] := List.getElem?_eq_getElem hlt
        obtain ⟨k1, k2⟩ := j1 _ hgx
        rw [List.drop_eq_getElem_cons hlt] at hc
        have hc : (noX (t xs[i])).bind (fun b => if b = true then (noX (f xs[i])).bind fun y => (compG t f (xs.drop (i + 1))).bind fun r => ok (y :: r) else compG t f (xs.drop (i + 1))) = some (.ok rest) := hc
        refine ⟨k1, fun H' => ∃ acc vacc rest D2, H' Dl = some (.lst vacc) ∧ Ext H1 D1 H' D2 ∧ D2 Dl = none ∧ Paired (B.rep X.K D2) acc vacc ∧ compG t f (xs.drop (i + 1)) = ok rest ∧ res = acc ++ rest, fun H' hN => ⟨xs.length - (i + 1), by omega, rfl, hlt, hN⟩, fun v H3 hy => ?_⟩
        obtain ⟨D3, e3, rv⟩ := k2 v H3 hy
        have hr3 := hr2.grow e3
        have hD3 : H3 Dl = some (.lst vacc) := e3.h _ _ hD
        have nD3 : D3 Dl = none := e3.out Dl nD2 (by rw [hD]; simp)
        obtain ⟨os4, hr4⟩ := hr3.wipe vs
        refine hg H0 D0 H3 D3 (rmvs vs Γ) (wipe σ vs) os4 xs[i] v _ (by rw [wipe_length]; exact hl) hr4 rv fun σ5 os5 hl5 hw5 hr5 => ⟨?_, xs[i], H0, D0, D3, os5, hr5, ?_⟩
        · rw [hw5, wipe_wipe vs fun _ h => h]
        rcases bind_some hc with ⟨b, hb1, hb2⟩ | ⟨e, he, _⟩
        · obtain ⟨b', hb3, hb4⟩ := noX_some hb1
          cases hb4
          refine ⟨_, hb3, fun H6 D6 e6 => ?_⟩
          have hr6 := hr5.grow e6
          have hD6 : H6 Dl = some (.lst vacc) := e6.h _ _ hD3
          have nD6 : D6 Dl = none := e6.out Dl nD3 (by rw [hD3]; simp)
          have e16 : Ext H1 D1 H6 D6 := (e2.trans e3).trans e6
          cases b with
          | false => exact ⟨acc, vacc, rest, D6, hD6, e16, nD6, B.monos (e3.d.trans e6.d) hpa, hb2, hres2⟩
          | true =>
            refine iteT ?_
            have hb2 : (noX (f xs[i])).bind (fun y => (compG t f (xs.drop (i + 1))).bind fun r => ok (y :: r)) = some (.ok rest) := hb2
            rcases bind_some hb2 with ⟨y, hy1, hy2⟩ | ⟨e, he, z⟩
            · obtain ⟨y', hy3, hy4⟩ := noX_some hy1
              cases hy4
              rcases bind_some hy2 with ⟨r, hr7, hr8⟩ | ⟨e, he, z⟩
              · cases hr8
                refine ⟨xs[i], H0, D0, D6, os5, hr6, _, hy3, fun v7 H7 D7 fp7 e7 ⟨_, rep7⟩ f7 => ?_⟩
                have hD7 : H7 Dl = some (.lst vacc) := e7.h _ _ hD6
                have nD7 : D7 Dl = none := e7.out Dl nD6 (by rw [hD6]; simp)
                have e17 := e16.trans e7
                have hpa7 : Paired (B.rep X.K D7) (acc ++ [y]) (vacc ++ [v7]) := Paired.snoc rep7 (B.monos ((e3.d.trans e6.d).trans e7.d) hpa)
                refine ⟨vacc, hD7, ?_, acc ++ [y], vacc ++ [v7], r, D7, upd_same, ⟨fun b o z => ?_, e17.d, fun b o z => ?_, e17.out⟩, nD7, hpa7, hr7, by rw [hres2]; simp⟩
                · have l1 : acc.length = vacc.length := hpa.length
                  rw [hres2] at sz
                  simp only [List.length_append, List.length_cons] at sz
                  omega
                · rw [upd_ne (ne_of_none z nD)]; exact e17.h b o z
                · rw [upd_ne (ne_of_none z nD7)]; exact e17.dh b o z
              · cases z
            · cases z
        · obtain ⟨a, _, z⟩ := noX_some (show noX (t xs[i]) = some (.ex e) from he)
          cases z
      · left
        have ei : xs.drop i = [] := List.drop_eq_nil_of_le (by omega)
        rw [ei] at hc
        cases hc
        refine ⟨j2 (by omega), ?_⟩
        refine hp1 (.ref Dl) H2 D2 [Dl] e2 ⟨Dl, vacc, rfl, rfl, hD, ?_⟩ ⟨by simp, fun q hq => ?_⟩
        · rw [hres2, List.append_nil]; exact hpa
        · have : q = Dl := by simpa using hq
          subst this
          exact ⟨nD, nD2, by rw [hD]; simp⟩
    · exact absurd he (compG_nx _ _)
  · exact ⟨H0, D0, D, os, hr, _, rfl, hp⟩
theorem _root_.L2.PE.weakI {X : Cx} {e : Expr} {t t' : TE} (h : PE X e t) (w : ∀ σ H Q, σ.length = X.N.length → t' σ H Q → t σ H Q) : PE X e t' := ⟨fun pins s σ H Q I hq => h.run pins s σ H Q I (w _ _ _ I.len hq)⟩
structure CompOk (X : Cx) (G : Ctx) (Γ : Vw) (elt tg it : Expr) (ifs : List Expr) (scope : Scope) (own : List (Str × Nat)) (B : Dt β) (r : M (List β)) : Prop where
  ex : Wf X G → ∃ (wi : TI) (g : TG) (tt : TT) (te : TE), PI X tg it wi ∧ BlkOk X.N X.env.scope scope own ∧ (∀ s H C cl fp, PG (X.blk s H scope (compEnvC scope cl C X.env) fp) tg g) ∧ (∀ s H C cl fp, PTs (X.blk s H scope (compEnvC scope cl C X.env) fp) ifs tt) ∧
    (∀ s H C cl fp, PE (X.blk s H scope (compEnvC scope cl C X.env) fp) elt te) ∧ (∀ x, foldedSetIterable it X.env x = pure x) ∧ ∀ σ H Q, σ.length = X.N.length → tE X.K X.mg G Γ (T.own B) r σ H Q → tLc wi g tt te (own.map (·.2)) σ H Q
theorem C_comp {scope : Scope} {own : List (Str × Nat)} {sl : List Nat} {A : Dt α} {B : Dt β} {u : α → Vw → Vw} {g : TG} {ri : M (List α)} {t : α → M Bool} {f : α → M β} (hi : ITR X G Γ tg it A ri)
    (hg : ∀ (s : Shared) (H : Hp) (C : Addr) (cl : List (Str × Addr)) (fp : List Addr), GT (X.blk s H scope (compEnvC scope cl C X.env) fp) tg sl A u g)
    (ht : ∀ (s : Shared) (H : Hp) (C : Addr) (cl : List (Str × Addr)) (fp : List Addr) (x : α), BTs (X.blk s H scope (compEnvC scope cl C X.env) fp) G.blk (u x (rmvs (own.map (·.2)) Γ)) ifs (t x))
    (he : ∀ (s : Shared) (H : Hp) (C : Addr) (cl : List (Str × Addr)) (fp : List Addr) (x : α), ET (X.blk s H scope (compEnvC scope cl C X.env) fp) G.blk (u x (rmvs (own.map (·.2)) Γ)) elt (dat B) (f x))
    (hc : G.c = true := by rfl)
    (hok : blkC X.N X.env.scope scope own = true := by decide +kernel) (hsl : ∀ i ∈ sl, i ∈ own.map (·.2) := by decide) (hs : ∀ x, foldedSetIterable it X.env x = pure x := by intro _; rfl) : CompOk X G Γ elt tg it ifs scope own B (ri.bind fun xs => compL t f xs) := ⟨fun w =>
  ⟨_, g, _, _, hi w, blkOk_by hok, fun s H C cl fp => ((hg s H C cl fp).ex w.nd (w.calm hc)).1,
    fun s H C cl fp => ⟨fun pins s' σ H' Q I ⟨x, h⟩ => (ht s H C cl fp x (w.blk _ _ _ _ _)).run pins s' σ H' Q I h⟩,
    fun s H C cl fp => ⟨fun pins s' σ H' Q I ⟨x, h⟩ => (he s H C cl fp x (w.blk _ _ _ _ _)).run pins s' σ H' Q I h⟩, hs,
    fun σ H Q hl h => comp_weak X.N.length (fun H0 D0 H D Γ σ os x v Q hl hr rv k => ((hg X.s_0 X.H_0 0 [] []).ex w.nd (w.calm hc)).2 H0 D0 H D Γ σ os x v Q hl hr rv fun σ' os' hl' hw' hr' => k σ' os' hl' (hw' _ hsl) hr') σ H Q hl h⟩⟩
theorem E_comp {scope : Scope} {own : List (Str × Nat)} {B : Dt β} {r : M (List β)} (h : CompOk X G Γ elt tg it ifs scope own B r) (hc : G.c = true := by rfl) : ET X G Γ (.ListComp elt [⟨tg, it, ifs, 0⟩] scope pos) (T.own B) r := fun w => by
  obtain ⟨wi, g, tt, te, h1, h2, h3, h4, h5, h6, h7⟩ := h.ex w
  exact (pe_lc (w.calm hc) w.nd h1 h2 h3 h4 h5 h6).weakI h7
theorem frz_weak {K : Fr} {mg : Str → Option Value} {A : Dt α} {r : M (List α)} {σ : L2.St} {H : Hp} {Q : VK} (h : tE K mg G Γ (dat (tLst A)) r σ H Q) : tE K mg G Γ (own A) r σ H Q := by
  obtain ⟨H0, D0, D, os, hr, x, hx, hp⟩ := h
  refine ⟨H0, D0, D, os, hr, x, hx, ?_⟩
  cases x with
  | ex e => exact hp
  | ok xs =>
    intro v H' D' fp e ⟨p, vs, r1, r2, r3, r4⟩ f
    subst r1; subst r2
    obtain ⟨f1, f2, f3⟩ := f.2 p List.mem_cons_self
    have hup : Le D' (upd D' p (.lst vs)) := fun b o z => by rw [upd_ne (ne_of_none z f2)]; exact z
    refine hp (.ref p) H' (upd D' p (.lst vs)) [] ⟨e.h, e.d.trans hup, fun b o z => ?_, fun b h1 h2 => ?_⟩ ⟨rfl, p, vs, rfl, upd_same, A.monos hup r4⟩ .nil
    · by_cases q : b = p
      · subst q; rw [upd_same] at z; cases z; exact r3
      · rw [upd_ne q] at z; exact e.dh b o z
    · by_cases q : b = p
      · subst q; exact absurd f1 h2
      · rw [upd_ne q]; exact e.out b h1 h2
theorem S_compF (i : Nat) {y : Str} {py spos : Pos} {scope : Scope} {own : List (Str × Nat)} {B : Dt β} {r : M (List β)} (h : CompOk X G Γ elt tg it ifs scope own B r) (hc : G.c = true := by rfl) (hy : X.N[i]? = some y := by rfl) (hyl : X.env.scope.names.lookup y = some .local := by rfl)
    (hsw : swapsWith (.ListComp elt [⟨tg, it, ifs, 0⟩] scope pos) (some (.Name y py)) spos.line X.env = pure true := by exact sw_true rfl rfl rfl (by decide +kernel)) : JS X G Γ (.Assign [.Name y py] (.ListComp elt [⟨tg, it, ifs, 0⟩] scope pos) spos) R (fun a => .nx (put (eD i (tLst B) a) Γ)) r := fun w => by
  obtain ⟨wi, g, tt, te, h1, h2, h3, h4, h5, h6, h7⟩ := h.ex w
  refine (ps_setLc (w.calm hc) w.nd hy hyl hsw h1 h2 h3 h4 h5 h6).weakI fun E σ H hl ⟨H0, D0, D, os, hr, x, hx, hp⟩ => h7 σ H _ hl (frz_weak ⟨H0, D0, D, os, hr, x, hx, ?_⟩)
  cases x with
  | ex e => exact fun c d => hp c d σ
  | ok t =>
    intro v H' D' fp e r f
    have hi : i < σ.length := by rw [hl]; exact (List.getElem?_eq_some_iff.mp hy).1
    obtain ⟨os', q⟩ := (hr.grow e).put (st := dat_st (tLst B)) hi hr.ext.h (fun p h => (hr.own p h).2.2) r f
    exact hp _ H' D' os' q
end
/-! ### a def -/
structure DefAt (K : Fr) (mg : Str → Option Value) (x : Str) (st : Stmt) : Prop where
  ex : ∃ f fd, Fun K x x st f fd ∧ mg x = some (.ref f)
def fPost {ρ : Type} (R : Rp ρ) (x : Rs ρ) : Dest ρ → Prop
  | .rt a => x = .ok a
  | .nx _ => ∃ a, x = .ok a ∧ ∀ K H D, R.rep K H D [] a .non
  | _ => False
theorem fn_of' {P : Program} {w : World} {K : Fr} {mg : Str → Option Value} {base : Heap} {x : Str} {st : Stmt} {f : Addr} {fd : FuncData} {N ps : List Str} {k : Nat} {τ ρ θ : Type} {B : Ap τ} {R : Rp ρ} {m : τ → M ρ} (Z : θ → Dest ρ) (fin : M θ → M ρ) (F : Fun K x x st f fd) (S : FnScope N ps (defScope st)) (hl : B.len = ps.length)
    (hz : ∀ (r : M θ) (x : Rs ρ), fin r = some x → ∃ y, r = some y ∧ ((∃ t, y = .ok t ∧ fPost R x (Z t)) ∨ ∃ e, y = .ex e ∧ x = .ex e))
    (body : ∀ (cdv : Value) (A : Around) (outer : List Env) (s : Shared) (H : Hp) (E : XK) (t : τ), ∃ r, m t = fin r ∧
      JB (cxOf (L2.CX P w) P w K mg base N x (defScope st) f cdv A outer s H E) ⟨fun c d _ H => E c d H, [], k, true⟩ (B.view 0 t) (defBody st) R Z r) : FnOk P w K mg base (L2.CX P w) (k + 1) f fd ps (spT K mg B R m) := by
  refine F.okX S (fun vs H Q E ⟨D, t, _, ht, _⟩ => by rw [Ap.length ht, hl]) fun cdv A outer s H vs Q E hr ⟨D, t, le, ht, x, hx, hq⟩ => ?_
  obtain ⟨r, hmr, hJ⟩ := body cdv A outer s H E t
  obtain ⟨y, hy, hzy⟩ := hz r x (hmr ▸ hx)
  refine ⟨_, hJ ⟨takes_of rfl rfl rfl rfl, S.nd, fun _ => hr, fun _ => rfl, hr.units, passes_of rfl⟩, ?_⟩
  refine ⟨H, D, D, [], ⟨Ext.refl le, (fun _ z => nomatch z), List.nodup_nil, ?_⟩, y, hy, ?_⟩
  · exact Ap.hold (more := List.replicate (N.length - vs.length) none) [] ht
  · rcases hzy with ⟨t, rfl, hz⟩ | ⟨e, rfl, rfl⟩
    · refine jPost.of rfl ?_
      cases z : Z t with
      | rt a =>
        rw [z] at hz
        cases (show x = .ok a from hz)
        exact fun v H' D' fp e r f => hq v H' D' fp e r f
      | nx Γ' =>
        rw [z] at hz
        obtain ⟨a, rfl, ha⟩ := (show ∃ a, x = .ok a ∧ ∀ K H D, R.rep K H D [] a .non from hz)
        exact fun σ' H' D' os' r => hq .non H' D' [] r.ext (ha _ _ _) .nil
      | bk _ => rw [z] at hz; exact False.elim hz
      | ct _ => rw [z] at hz; exact False.elim hz
    · exact fun c d σ' H' D' os' r => hq c d H' D' r.ext
/-- a def that hands back on every way -/
theorem fn_ret {P : Program} {w : World} {K : Fr} {mg : Str → Option Value} {base : Heap} {x : Str} {st : Stmt} {f : Addr} {fd : FuncData} {N ps : List Str} {k : Nat} {τ ρ : Type} {B : Ap τ} {R : Rp ρ} {m : τ → M ρ} (F : Fun K x x st f fd) (S : FnScope N ps (defScope st)) (hl : B.len = ps.length)
    (body : ∀ (cdv : Value) (A : Around) (outer : List Env) (s : Shared) (H : Hp) (E : XK) (t : τ),
      JB (cxOf (L2.CX P w) P w K mg base N x (defScope st) f cdv A outer s H E) ⟨fun c d _ H => E c d H, [], k, true⟩ (B.view 0 t) (defBody st) R (fun a => .rt a) (m t)) : FnOk P w K mg base (L2.CX P w) (k + 1) f fd ps (spT K mg B R m) :=
  fn_of' (fun a => .rt a) (fun r => r) F S hl (fun r x hx => ⟨x, hx, by cases x with | ok a => exact .inl ⟨a, rfl, rfl⟩ | ex e => exact .inr ⟨e, rfl, rfl⟩⟩) fun cdv A outer s H E t => ⟨_, rfl, body cdv A outer s H E t⟩
/-- .. as its callers know it -/
theorem fx_ret {P : Program} {w : World} {K : Fr} {mg : Str → Option Value} {base : Heap} {x : Str} {st : Stmt} (N ps : List Str) {k : Nat} {τ ρ : Type} {B : Ap τ} {R : Rp ρ} {m : τ → M ρ} (h : DefAt K mg x st) (S : FnScope N ps (defScope st)) (hl : B.len = ps.length)
    (hb : ∀ (kV doc pm : Value) (an : Option Addr) (cdv ct : Value) (us : List Value), us.length = ps.length → bindArgs (PySem.W.fnOf x x (defArgs st) (defBody st) (defScope st) .none kV doc pm an cdv ct) ⟨us, []⟩ = pure (ps.zip us))
    (body : ∀ (cdv : Value) (f : Addr) (A : Around) (outer : List Env) (s : Shared) (H : Hp) (E : XK) (t : τ),
      JB (cxOf (L2.CX P w) P w K mg base N x (defScope st) f cdv A outer s H E) ⟨fun c d _ H => E c d H, [], k, true⟩ (B.view 0 t) (defBody st) R (fun a => .rt a) (m t)) : Fx P w K mg base x (k + 1) B R m := by
  obtain ⟨f, fd, F, hm⟩ := h.ex
  exact ⟨f, fd, ps, fn_ret F S hl fun cdv A outer s H E t => body cdv f A outer s H E t, hm, F.kp, F.binds hb⟩
theorem defAt_mk {K : Fr} {mg : Str → Option Value} {h : Heap} {x : Str} {st : Stmt} {f : Addr} {oc : Value} {od an : Option Addr} {osl : Array (Option Value)} {kV doc pm cdv ct : Value} (X : K.In h) (G : h.Ns mainGlobals mg) (a : PySem.W.nsIn K mainGlobals x = some (some (.ref f)))
    (l : K.lookup f = some ⟨oc, od, .func (PySem.W.fnOf x x (defArgs st) (defBody st) (defScope st) .none kV doc pm an cdv ct), osl⟩) (c : PySem.W.codeIn K cdv x = true) (k : PySem.W.keepIn K (.ref f) = true) : DefAt K mg x st :=
  ⟨f, _, fun_mk l c k, PySem.W.mg_of X G a⟩
/-- the law's promise, as the end wants it -/
def spLaw (K : Fr) : Sp := fun vs H Q _ => ∃ (a : Addr) (ns : List Int), vs = [.ref a] ∧ SqL K H a (ns.map V.int) ∧ ns.length ≤ 63 ∧ ∀ H', Q (.bl true) H'
theorem spLaw_of {K : Fr} {mg : Str → Option Value} {m : List Int × Unit → M Bool} (hm : ∀ ns : List Int, ns.length ≤ 63 → m (ns, ()) = ok true) (vs : List L2.V) (H : Hp) (Q : VK) (E : XK) (h : spLaw K vs H Q E) : spT K mg (.cons tScr .nil) (dat tBool) m vs H Q E := by
  obtain ⟨a, ns, rfl, hS, hl, q⟩ := h
  refine ⟨H, (ns, ()), Same.refl _, ⟨.ref a, [], rfl, ⟨a, rfl, hS⟩, rfl⟩, .ok true, hm ns hl, fun v H' D' fp e ⟨_, hv⟩ f => ?_⟩
  cases (show v = V.bl true from hv)
  exact q H'
theorem law_fd {P : Program} {w : World} {K : Fr} {mg : Str → Option Value} {st : Stmt} {x : Str} {k : Nat} {fa : Addr} {m : List Int × Unit → M Bool} (D : DefAt K mg "law" st) (hfa : mg "law" = some (.ref fa))
    (hb : ∀ (kV doc pm : Value) (an : Option Addr) (cdv ct : Value) (s : Shared) (u : Value), BindsTo s (PySem.W.fnOf "law" "law" (defArgs st) (defBody st) (defScope st) .none kV doc pm an cdv ct) ⟨[u], []⟩ [(x, u)])
    (hm : ∀ ns : List Int, ns.length ≤ 63 → m (ns, ()) = ok true)
    (F : ∀ (base : Heap) (f : Addr) (fd : FuncData), Fun K "law" "law" st f fd → FnOk P w K mg base (L2.CX P w) k f fd [x] (spT K mg (.cons tScr .nil) (dat tBool) m)) :
    ∃ fd : FuncData, (∀ (s : Shared) (u : Value), BindsTo s fd ⟨[u], []⟩ [(x, u)]) ∧ ∀ base : Heap, K.In base → base.Ns mainGlobals mg → FnOk P w K mg base (L2.CX P w) k fa fd [x] (spLaw K) := by
  obtain ⟨f, fd, Fn, hf⟩ := D.ex
  cases (hfa.symm.trans hf)
  refine ⟨fd, ?_, fun base _ _ => (F base fa fd Fn).imp (spLaw_of hm)⟩
  obtain ⟨oc, od, kV, doc, pm, an, cdv, ct, osl, rfl, lk, hcd⟩ := Fn.ex
  exact hb kV doc pm an cdv ct
theorem cx_no {P : Program} {w : World} (H : Hp) (s : Shared) (e : Value) (s' : Shared) : L2.CX P w [] H s (fun _ _ _ => False) e s' → False := fun h => by
  obtain ⟨_, _, _, _, _, _, _, _, _, _, _, _, z⟩ := h
  exact z.elim
end T
set_option maxRecDepth 100000
set_option maxHeartbeats 4000000
namespace T
open PySem PySem.Spec PyProof.Rows L2
/-! ### data, compared -/
structure Enc {α : Type} [DecidableEq α] (A : Dt α) where
  toD : α → PyData
  dp : ∀ {K : Fr} {H : Hp} {a : α} {v : L2.V}, A.rep K H a v → Dp K H v (toD a)
  plain : ∀ a, (toD a).plain = true
  eqv : ∀ a b, PyData.eqv (toD a) (toD b) = decide (a = b)
  depth : Nat
  depth_le : ∀ a, (toD a).depth ≤ depth
def eInt : Enc tInt := ⟨PyData.int, fun {K H a v} h => by cases (show v = V.int a from h); exact .int a, fun _ => rfl, fun a b => by simp only [PyData.eqv]; exact PySem.W.beq_decide a b, 0, fun _ => Nat.le_refl _⟩
def eBool : Enc tBool := ⟨PyData.bool, fun {K H a v} h => by cases (show v = V.bl a from h); exact .bl a, fun _ => rfl, fun a b => by simp only [PyData.eqv]; exact PySem.W.beq_decide a b, 0, fun _ => Nat.le_refl _⟩
section
variable {α β γ : Type} [DecidableEq α] [DecidableEq β] [DecidableEq γ] {A : Dt α} {B : Dt β} {C : Dt γ}
theorem Enc.dps (e : Enc A) {K : Fr} {H : Hp} : ∀ {xs : List α} {vs : List L2.V}, Paired (A.rep K H) xs vs → DpAll K H vs (xs.map e.toD)
  | _, _, .nil => .nil
  | _, _, .cons r t => .cons (e.dp r) (Enc.dps e t)
theorem Enc.plains (e : Enc A) : ∀ xs : List α, PyData.plainAll (xs.map e.toD) = true
  | [] => rfl
  | x :: xs => by rw [List.map_cons, PyData.plainAll, e.plain x, Enc.plains e xs]; rfl
theorem Enc.depths (e : Enc A) : ∀ xs : List α, PyData.depthAll (xs.map e.toD) ≤ e.depth
  | [] => Nat.zero_le _
  | x :: xs => by rw [List.map_cons, PyData.depthAll]; exact Nat.max_le.mpr ⟨e.depth_le x, Enc.depths e xs⟩
theorem Enc.eqvs (e : Enc A) : ∀ xs ys : List α, PyData.eqvAll (xs.map e.toD) (ys.map e.toD) = decide (xs = ys)
  | [], [] => by simp only [List.map_nil, PyData.eqvAll, decide_true]
  | [], _ :: _ => by simp [PyData.eqvAll]
  | _ :: _, [] => by simp [PyData.eqvAll]
  | x :: xs, y :: ys => by
    rw [List.map_cons, List.map_cons, PyData.eqvAll, e.eqv x y, Enc.eqvs e xs ys, ← Bool.decide_and]
    exact decide_eq_decide.mpr (by rw [List.cons.injEq])
def eRow (e : Enc A) : Enc (tRow A) := ⟨fun xs => .tuple (xs.map e.toD), fun {K H a v} h => by
    obtain ⟨p, vs, rfl, h1, h2⟩ := h
    exact .tup h1 (e.dps h2), fun xs => by simp only [PyData.plain]; exact e.plains xs, fun xs ys => by simp only [PyData.eqv]; exact e.eqvs xs ys, e.depth + 1, fun xs => by simp only [PyData.depth]; exact Nat.succ_le_succ (e.depths xs)⟩
def eLst (e : Enc A) : Enc (tLst A) := ⟨fun xs => .list (xs.map e.toD), fun {K H a v} h => by
    obtain ⟨p, vs, rfl, h1, h2⟩ := h
    exact .lst (SqL.of h1) (e.dps h2), fun xs => by simp only [PyData.plain]; exact e.plains xs, fun xs ys => by simp only [PyData.eqv]; exact e.eqvs xs ys, e.depth + 1, fun xs => by simp only [PyData.depth]; exact Nat.succ_le_succ (e.depths xs)⟩
def eRec2 (e : Enc A) (f : Enc B) : Enc (tRec2 A B) := ⟨fun x => .tuple [e.toD x.1, f.toD x.2], fun {K H a v} h => by
    obtain ⟨p, v1, v2, rfl, h1, h2, h3⟩ := h
    exact .tup h1 (.cons (e.dp h2) (.cons (f.dp h3) .nil)), fun x => by simp only [PyData.plain, PyData.plainAll, e.plain, f.plain, Bool.and_self], fun p q => by
    simp only [PyData.eqv, PyData.eqvAll]
    rw [e.eqv, f.eqv, Bool.and_true, ← Bool.decide_and]
    exact decide_eq_decide.mpr ⟨fun e => Prod.ext e.1 e.2, fun e => by rw [e]; exact ⟨rfl, rfl⟩⟩, max e.depth f.depth + 1, fun x => by
    simp only [PyData.depth, PyData.depthAll]
    refine Nat.succ_le_succ (Nat.max_le.mpr ⟨Nat.le_trans (e.depth_le x.1) (Nat.le_max_left _ _), Nat.max_le.mpr ⟨Nat.le_trans (f.depth_le x.2) (Nat.le_max_right _ _), Nat.zero_le _⟩⟩)⟩
/-- a reading as data -/
def RepD (R : Rp α) (toD : α → PyData) : Prop := ∀ {K : Fr} {H D : Hp} {fp : List Addr} {a : α} {v : L2.V}, Le D H → R.rep K H D fp a v → Dp K H v (toD a)
mutual
theorem Dp.mono {K : Fr} {H H' : Hp} (e : Le H H') : ∀ {v : L2.V} {d : PyData}, Dp K H v d → Dp K H' v d
  | _, _, .non => .non
  | _, _, .bl b => .bl b
  | _, _, .int i => .int i
  | _, _, .str x => .str x
  | _, _, .lst h1 h2 => .lst (Same.seq e h1) (DpAll.mono e h2)
  | _, _, .tup h1 h2 => .tup (SqT.mono e h1) (DpAll.mono e h2)
theorem DpAll.mono {K : Fr} {H H' : Hp} (e : Le H H') : ∀ {vs : List L2.V} {ds : List PyData}, DpAll K H vs ds → DpAll K H' vs ds
  | _, _, .nil => .nil
  | _, _, .cons h1 h2 => .cons (Dp.mono e h1) (DpAll.mono e h2)
end
theorem repD_dat (e : Enc A) : RepD (dat A) e.toD := fun le h => Dp.mono le (e.dp h.2)
theorem repD_bor (e : Enc A) : RepD (bor A) (eLst e).toD := fun le ⟨_, p, vs, h1, h2, h3⟩ => by
  subst h1
  exact .lst h2 (DpAll.mono le (e.dps h3))
end
section
variable {X : Cx} {G : Ctx} {Γ : Vw} {α β γ : Type} {a b c : Expr} {pos : Pos}
def rEqP (K : Fr) (k : Nat) : R2 := fun x y H Q => ∃ d e, Dp K H x d ∧ Dp K H y e ∧ d.plain = true ∧ e.plain = true ∧ d.depth ≤ k ∧ Q (.bl (PyData.eqv d e)) H
theorem op_eqP {k : Nat} (hu : X.A.units + k < cLine) : OpR X (compareOp .Eq) (rEqP X.K k) := by
  intro pins s σ H x y v u Q I rx ry ⟨d, e, hd, he, sd, se, dk, q⟩
  obtain ⟨as, r1⟩ := Dp.reads I d x v hd rx
  obtain ⟨bs, r2⟩ := Dp.reads I e y u he ry
  exact PySem.SeqAt.eq_plain r1 r2 sd se (PySem.W.room_datum dk hu) ⟨.bl _, H, I, rfl, q⟩
theorem Wf.un (w : Wf X G) {k : Nat} (h : k ≤ 60) : X.A.units + k < cLine := by have := w.hu; omega
variable [DecidableEq α]
theorem cp_eqP (K : Fr) {A : Dt α} {R R' : Rp α} (e : Enc A) (h1 : RepD R e.toD) (h2 : RepD R' e.toD) : Cp2 K (rEqP K e.depth) R R' fun x y => decide (x = y) := fun H D a b va vb fa fb Q le r1 r2 q =>
  ⟨e.toD a, e.toD b, h1 le r1, h2 le r2, e.plain a, e.plain b, e.depth_le a, by rw [e.eqv]; exact q⟩
theorem E_eqP {A : Dt α} {R R' : Rp α} {ra rb : M α} (e : Enc A) (h1 : RepD R e.toD) (h2 : RepD R' e.toD) (hd : e.depth ≤ 60) (ha : ET X G Γ a R ra) (hb : ET X G Γ b R' rb) : ET X G Γ (.Compare a [.Eq] [b] pos) (dat tBool) (ra.bind fun x => rb.bind fun y => ok (decide (x = y))) := fun w =>
  E_cmp (op_eqP (w.un hd)) (cp_eqP X.K e h1 h2) (nomark _) ha hb w
theorem B_eqP {A : Dt α} {R R' : Rp α} {ra rb : M α} (e : Enc A) (h1 : RepD R e.toD) (h2 : RepD R' e.toD) (hd : e.depth ≤ 60) (ha : ET X G Γ a R ra) (hb : ET X G Γ b R' rb) : BT X G Γ (.Compare a [.Eq] [b] pos) (ra.bind fun x => rb.bind fun y => ok (decide (x = y))) := fun w =>
  B_cmp (op_eqP (w.un hd)) (cp_eqP X.K e h1 h2) (nomark _) ha hb w
/-! x in xs -/
def rInP (K : Fr) (k : Nat) (neg : Bool) : R2 := fun x y H Q => ∃ (d : PyData) (ds : List PyData) (p : Addr) (vs : List L2.V), y = .ref p ∧ (SqL K H p vs ∨ SqT K H p vs) ∧ DpAll K H vs ds ∧ Dp K H x d ∧ PyData.plainAll ds = true ∧ d.plain = true ∧ PyData.depthAll ds ≤ k ∧
  Q (.bl (if neg then !(ds.any fun z => PyData.eqv z d) else ds.any fun z => PyData.eqv z d)) H
theorem op_inP {k : Nat} (hu : X.A.units + 1 + k < cLine) : OpR X (compareOp .In) (rInP X.K k false) := by
  intro pins s σ H x y v u Q I rx ry ⟨d, ds, p, vs, ey, hs, ha, hx, pl, pd, dk, q⟩
  subst ey
  cases ry
  obtain ⟨bs, r1⟩ := Dp.reads I d x v hx rx
  have q' : EP X pins σ Q (.bool (ds.any fun z => PyData.eqv z d)) s := ⟨.bl _, H, I, rfl, q⟩
  rcases hs with hs | hs
  · obtain ⟨its, rv, ⟨o, n, ho, hc, _, hd⟩, _⟩ := I.list hs
    obtain ⟨as, hr⟩ := Dp.readsAll I ds _ its ha rv
    exact PySem.SeqAt.in_list_data (.list ho hc hd hr) r1 pl pd (PySem.W.room_items dk hu) q'
  · obtain ⟨its, rv, ⟨o, ho, hc, n, hd⟩, _⟩ := I.tuple hs
    obtain ⟨as, hr⟩ := Dp.readsAll I ds _ its ha rv
    exact PySem.SeqAt.in_tuple_data (.tuple ho hc hd hr) r1 pl pd (PySem.W.room_items dk hu) q'
theorem op_notInP {k : Nat} (hu : X.A.units + 1 + k < cLine) : OpR X (compareOp .NotIn) (rInP X.K k true) := by
  intro pins s σ H x y v u Q I rx ry ⟨d, ds, p, vs, ey, hs, ha, hx, pl, pd, dk, q⟩
  subst ey
  cases ry
  obtain ⟨bs, r1⟩ := Dp.reads I d x v hx rx
  have q' : EP X pins σ Q (.bool (!(ds.any fun z => PyData.eqv z d))) s := ⟨.bl _, H, I, rfl, q⟩
  rcases hs with hs | hs
  · obtain ⟨its, rv, ⟨o, n, ho, hc, _, hd⟩, _⟩ := I.list hs
    obtain ⟨as, hr⟩ := Dp.readsAll I ds _ its ha rv
    exact PySem.SeqAt.notIn_list_data (.list ho hc hd hr) r1 pl pd (PySem.W.room_items dk hu) q'
  · obtain ⟨its, rv, ⟨o, ho, hc, n, hd⟩, _⟩ := I.tuple hs
    obtain ⟨as, hr⟩ := Dp.readsAll I ds _ its ha rv
    exact PySem.SeqAt.notIn_tuple_data (.tuple ho hc hd hr) r1 pl pd (PySem.W.room_items dk hu) q'
theorem any_enc {A : Dt α} (e : Enc A) (xs : List α) (x : α) : ((xs.map e.toD).any fun d => PyData.eqv d (e.toD x)) = decide (x ∈ xs) := by
  rw [List.any_map, Bool.eq_iff_iff, List.any_eq_true, decide_eq_true_eq]
  constructor
  · rintro ⟨y, hy, z⟩
    have z : PyData.eqv (e.toD y) (e.toD x) = true := z
    rw [e.eqv, decide_eq_true_eq] at z
    exact z ▸ hy
  · intro hx
    refine ⟨x, hx, ?_⟩
    show PyData.eqv (e.toD x) (e.toD x) = true
    rw [e.eqv, decide_eq_true_eq]
theorem cp_inL (K : Fr) {A : Dt α} (e : Enc A) : Cp2 K (rInP K e.depth false) (dat A) (bor A) fun x xs => decide (x ∈ xs) := fun H D a b va vb fa fb Q le ⟨_, r1⟩ ⟨_, p, vs, z, h1, h2⟩ q =>
  ⟨e.toD a, b.map e.toD, p, vs, z, .inl h1, DpAll.mono le (e.dps h2), Dp.mono le (e.dp r1), e.plains b, e.plain a, e.depths b, by rw [any_enc]; exact q⟩
theorem cp_inT (K : Fr) {A : Dt α} (e : Enc A) : Cp2 K (rInP K e.depth false) (dat A) (dat (tRow A)) fun x xs => decide (x ∈ xs) := fun H D a b va vb fa fb Q le ⟨_, r1⟩ ⟨_, p, vs, z, h1, h2⟩ q =>
  ⟨e.toD a, b.map e.toD, p, vs, z, .inr (SqT.mono le h1), DpAll.mono le (e.dps h2), Dp.mono le (e.dp r1), e.plains b, e.plain a, e.depths b, by rw [any_enc]; exact q⟩
theorem cp_niT (K : Fr) {A : Dt α} (e : Enc A) : Cp2 K (rInP K e.depth true) (dat A) (dat (tRow A)) fun x xs => !decide (x ∈ xs) := fun H D a b va vb fa fb Q le ⟨_, r1⟩ ⟨_, p, vs, z, h1, h2⟩ q =>
  ⟨e.toD a, b.map e.toD, p, vs, z, .inr (SqT.mono le h1), DpAll.mono le (e.dps h2), Dp.mono le (e.dp r1), e.plains b, e.plain a, e.depths b, by rw [any_enc]; exact q⟩
theorem B_inL {A : Dt α} {ra : M α} {rb : M (List α)} (e : Enc A) (hd : e.depth ≤ 59) (ha : ET X G Γ a (dat A) ra) (hb : ET X G Γ b (bor A) rb) (hm : behindInMarks .In b = false := by rfl) : BT X G Γ (.Compare a [.In] [b] pos) (ra.bind fun x => rb.bind fun y => ok (decide (x ∈ y))) := fun w =>
  B_cmp (op_inP (by have := w.hu; omega)) (cp_inL X.K e) hm ha hb w
theorem B_niT {A : Dt α} {ra : M α} {rb : M (List α)} (e : Enc A) (hd : e.depth ≤ 59) (ha : ET X G Γ a (dat A) ra) (hb : ET X G Γ b (dat (tRow A)) rb) (hm : behindInMarks .NotIn b = false := by rfl) : BT X G Γ (.Compare a [.NotIn] [b] pos) (ra.bind fun x => rb.bind fun y => ok (!decide (x ∈ y))) := fun w =>
  B_cmp (op_notInP (by have := w.hu; omega)) (cp_niT X.K e) hm ha hb w
end
/-! ### isinstance of built-in classes -/
section
variable {X : Cx} {G : Ctx} {Γ : Vw} {α β γ : Type} {a b c : Expr} {pos : Pos}
def IsTy (A : Dt α) (T : String) : Prop := ∀ (K : Fr) (H : Hp) (x : α) (v : L2.V), A.rep K H x v → TyX K H v (.type T)
theorem ty_int : IsTy tInt "int" := fun K H x v h => by cases (show v = V.int x from h); exact .base (.int x)
theorem ty_bool : IsTy tBool "bool" := fun K H x v h => by cases (show v = V.bl x from h); exact .base (.bl x)
theorem sqt_ty {K : Fr} {H : Hp} {p : Addr} {vs : List L2.V} (h : SqT K H p vs) : TyX K H (.ref p) (.type "tuple") := by
  rcases h with (h | ⟨o, h⟩) | ⟨o, its, n, h1, h2, _⟩
  · exact .base (.tup h)
  · exact .fTuple h
  · exact .kTuple h1 h2
theorem ty_row (A : Dt α) : IsTy (tRow A) "tuple" := fun K H x v ⟨p, vs, e, h, _⟩ => by subst e; exact sqt_ty h
theorem ty_lst (A : Dt α) : IsTy (tLst A) "list" := fun K H x v ⟨p, vs, e, h, _⟩ => by subst e; exact .base (.lst h)
theorem ty_rec2 (A : Dt α) (B : Dt β) : IsTy (tRec2 A B) "tuple" := fun K H x v ⟨p, v1, v2, e, h, _⟩ => by subst e; exact sqt_ty h
theorem TyX.mono {K : Fr} {H H' : Hp} {v : L2.V} {T : String} (e : Le H H') : TyX K H v (.type T) → TyX K H' v (.type T) := by
  intro h
  cases h with
  | base h =>
    cases h with
    | non => exact .base .non
    | bl b => exact .base (.bl b)
    | int i => exact .base (.int i)
    | str x => exact .base (.str x)
    | flt b => exact .base (.flt b)
    | lst h => exact .base (.lst (e _ _ h))
    | frz h => exact .base (.frz (e _ _ h))
    | tup h => exact .base (.tup (e _ _ h))
    | dK h => exact .base (.dK (e _ _ h))
    | dT h => exact .base (.dT (e _ _ h))
  | byt b => exact .byt b
  | set h => exact .set (e _ _ h)
  | kList h c => exact .kList h c
  | kTuple h c => exact .kTuple h c
  | kDict h c => exact .kDict h c
  | fTuple h => exact .fTuple (e _ _ h)
  | fDict h => exact .fDict (e _ _ h)
/-- a built-in class as a value -/
def tyR (C : String) : Rp Unit := ⟨fun _ _ _ fp _ v => fp = [] ∧ v = .ty C, fun _ _ h => h⟩
theorem E_ty {x : Str} (C : String) (hm : X.mg x = none) (hv : bootBuiltins x = some (.type C)) (hg : Gl X x := by rfl) (hn : x ≠ "__name__" := by decide) (hd : (x == ("__debug__" : Str)) = false := by decide) : ET X G Γ (.Name x pos) (tyR C) (ok ()) := fun w =>
  (pe_bltn (v := .ty C) hg hm hv rfl hn hd).weak fun σ H Q ⟨H0, D0, D, os, hr, x, hx, hp⟩ => by
    cases hx
    exact hp (.ty C) H D [] (Ext.refl hr.le) ⟨rfl, rfl⟩ .nil
theorem E_isi {A : Dt α} {T0 C : String} {x : Str} {r : Bool} {ra : M α} {p p2 : Pos} (hT : IsTy A T0) (hk : kitB T0 C = some r) (hm : X.mg "isinstance" = none) (hm2 : X.mg x = none) (hv : bootBuiltins x = some (.type C)) (ha : ET X G Γ a (dat A) ra)
    (hg : Gl X "isinstance" := by rfl) (hg2 : Gl X x := by rfl) (hn : x ≠ "__name__" := by decide) (hd : (x == ("__debug__" : Str)) = false := by decide)
    (hs1 : starEach [a, .Name x p2] X.env = (false, eval a X.env) :: starEach [.Name x p2] X.env := by rfl) (hs2 : starEach [.Name x p2] X.env = [(false, eval (.Name x p2) X.env)] := by rfl) (hpl : (backTo pos (starEach [.Name x p2] X.env)).any (·.1) = false := by rfl) :
    ET X G Γ (.Call (.Name "isinstance" p) [a, .Name x p2] [] pos) (dat tBool) (ra.bind fun _ => ok r) :=
  E_eq (E_bi2 (A := dat A) (B := tyR C) (R := dat tBool) (g := fun _ _ => ok r) call_isi (fun H D a b va vb fa fb c Q le ⟨_, h1⟩ ⟨_, h2⟩ hg k => by
    cases hg
    cases h2
    exact ⟨va, .ty C, _, _, r, rfl, .ty C, TyX.mono le (hT _ _ _ _ h1), kit_ty hk, k _ H D [] (Ext.refl le) ⟨rfl, rfl⟩ .nil⟩) nxok2 hm (by decide +kernel) ha (E_ty C hm2 hv hg2 hn hd) hg (by decide) (by decide) hs1 hs2 hpl) rfl
end
end T
set_option maxRecDepth 100000
set_option maxHeartbeats 4000000
namespace T
open PySem PySem.Spec PyProof.Rows L2
section
variable {X : Cx} {G : Ctx} {Γ : Vw} {α β γ δ τ ρ θ C C' : Type} {a b c e it tg : Expr} {pos : Pos} {st : Stmt} {rest B : List Stmt} {R : Rp ρ} {Z : θ → Dest ρ}
/-- a list of one's own is changed no more -/
theorem Rel.frz {K : Fr} {H0 D0 H D : Hp} {σ : L2.St} {os : List Addr} {i : Nat} {A : Dt α} {xs : List α} (hf : find i Γ = some (eO i A xs)) (r : Rel K H0 D0 Γ σ H D os) : ∃ D' os', Rel K H0 D0 (T.put (eD i (tLst A) xs) Γ) σ H D' os' ∧ Le D D' := by
  obtain ⟨fp, os', v, q1, ⟨p, vs, rfl, rfl, r3, r4⟩, q3, q4, q5⟩ := r.hold.find hf r.nd
  obtain ⟨h1, h2, h3⟩ := r.own p (q5 p (List.mem_append_left _ List.mem_cons_self))
  have hup : Le D (L2.upd D p (.lst vs)) := fun b o z => by rw [upd_ne (ne_of_none z h2)]; exact z
  have nd' := List.nodup_cons.mp q4
  refine ⟨L2.upd D p (.lst vs), os', ⟨⟨r.ext.h, r.ext.d.trans hup, fun b o z => ?_, fun b z1 z2 => ?_⟩, fun x hx => ?_, nd'.2, ⟨[], os', rfl, ⟨.ref p, q1, rfl, p, vs, rfl, upd_same, A.monos hup r4⟩, q3.agree (fun _ _ => rfl) hup⟩⟩, hup⟩
  · by_cases q : b = p
    · subst q; rw [upd_same] at z; cases z; exact r3
    · rw [upd_ne q] at z; exact r.ext.dh b o z
  · by_cases q : b = p
    · subst q; exact absurd h1 z2
    · rw [upd_ne q]; exact r.ext.out b z1 z2
  · obtain ⟨m1, m2, m3⟩ := r.own x (q5 x (List.mem_append_right _ hx))
    have : x ≠ p := fun z => nd'.1 (z ▸ hx)
    exact ⟨m1, by rw [upd_ne this]; exact m2, m3⟩
theorem J_frz (i : Nat) {A : Dt α} {xs : List α} {r : M θ} (h : JB X G (put (eD i (tLst A) xs) Γ) B R Z r) (hf : find i Γ = some (eO i A xs) := by rfl) : JB X G Γ B R Z r := fun w =>
  (h w).weak fun E σ H ⟨H0, D0, D, os, hr, x, hx, hp⟩ => by
    obtain ⟨D', os', q, _⟩ := hr.frz hf
    exact ⟨H0, D0, D', os', q, x, hx, hp⟩
theorem psz_w {xs : List α} (h : Nat.ble xs.length 16777216 = true) : psz xs = ok xs := grd_pos (by rw [sizeLine_eq]; exact Nat.le_of_ble_eq_true h) _
theorem nn_int {K : Fr} {H : Hp} {x : Int} {v : L2.V} (h : tInt.rep K H x v) : v ≠ .non := by rw [show v = V.int x from h]; exact fun z => nomatch z
theorem nn_row {K : Fr} {H : Hp} {A : Dt α} {x : List α} {v : L2.V} (h : (tRow A).rep K H x v) : v ≠ .non := by obtain ⟨p, vs, e, _⟩ := h; rw [e]; exact fun z => nomatch z
theorem nn_lst {K : Fr} {H : Hp} {A : Dt α} {x : List α} {v : L2.V} (h : (tLst A).rep K H x v) : v ≠ .non := by obtain ⟨p, vs, e, _⟩ := h; rw [e]; exact fun z => nomatch z
theorem nn_rec2 {K : Fr} {H : Hp} {A : Dt α} {B : Dt β} {x : α × β} {v : L2.V} (h : (tRec2 A B).rep K H x v) : v ≠ .non := by obtain ⟨p, v1, v2, e, _⟩ := h; rw [e]; exact fun z => nomatch z
theorem nn_rec3 {K : Fr} {H : Hp} {A : Dt α} {B : Dt β} {C : Dt γ} {x : α × β × γ} {v : L2.V} (h : (tRec3 A B C).rep K H x v) : v ≠ .non := by obtain ⟨p, v1, v2, v3, e, _⟩ := h; rw [e]; exact fun z => nomatch z
/-! ### more numbers -/
theorem E_mulK {i j c : Int} (h : MulOk i j) (hc : i * j = c) (ha : ET X G Γ a (dat tInt) (ok i)) (hb : ET X G Γ b (dat tInt) (ok j)) : ET X G Γ (.BinOp a .Mult b pos) (dat tInt) (ok c) :=
  E_eq (E_mul ha hb) (by show grd _ _ = _; rw [grd_pos h, hc])
theorem E_powK {i c : Int} (n : Nat) (h : i.natAbs < 2 ^ 64) (hn : n ≤ 1000000) (hc : i ^ n = c) (ha : ET X G Γ a (dat tInt) (ok i)) (hb : ET X G Γ b (dat tInt) (ok (n : Int))) : ET X G Γ (.BinOp a .Pow b pos) (dat tInt) (ok c) :=
  E_eq (E_powC n h hn ha hb) (by rw [hc])
def prangeI (j : Int) : M (List Int) := grd (-(2 ^ 62) ≤ j) (prange j)
theorem prangeI_nat {n : Nat} (h : n < 2 ^ 62) : prangeI (n : Int) = ok (rangeL 0 n) := by
  have h1 : -(2 ^ 62 : Int) ≤ (n : Int) := Int.le_trans (by decide) (Int.natCast_nonneg n)
  have h2 : (n : Int) < 2 ^ 62 := by
    have : ((2 ^ 62 : Nat) : Int) = 2 ^ 62 := by decide
    rw [← this]; exact Int.ofNat_lt.mpr h
  show grd _ (grd _ _) = _
  rw [grd_pos h1, grd_pos h2, Int.toNat_natCast]
theorem I_rangeI {ra : M Int} {p : Pos} (hm : X.mg "range" = none) (ha : ET X G Γ a (dat tInt) ra) (hg : Gl X "range" := by rfl) (hs : starEach [a] X.env = [(false, eval a X.env)] := by rfl) : ITR X G Γ tg (.Call (.Name "range" p) [a] [] pos) tInt (ra.bind prangeI) := I_range hm ha hg hs
theorem ip2_add : Ip2 X .Add (fun i j => ok (i + j)) := ⟨_, ip_add, fun H i j c Q e q => by cases e; exact ⟨i, j, rfl, rfl, q⟩⟩
theorem C_map {scope : Scope} {own : List (Str × Nat)} {sl : List Nat} {elt : Expr} {A : Dt α} {B : Dt β} {u : α → Vw → Vw} {g : TG} {ri : M (List α)} {f : α → M β} (hi : ITR X G Γ tg it A ri)
    (hg : ∀ (s : Shared) (H : Hp) (C : Addr) (cl : List (Str × Addr)) (fp : List Addr), GT (X.blk s H scope (compEnvC scope cl C X.env) fp) tg sl A u g)
    (he : ∀ (s : Shared) (H : Hp) (C : Addr) (cl : List (Str × Addr)) (fp : List Addr) (x : α), ET (X.blk s H scope (compEnvC scope cl C X.env) fp) G.blk (u x (rmvs (own.map (·.2)) Γ)) elt (dat B) (f x))
    (hc : G.c = true := by rfl)
    (hok : blkC X.N X.env.scope scope own = true := by decide +kernel) (hsl : ∀ i ∈ sl, i ∈ own.map (·.2) := by decide) (hs : ∀ x, foldedSetIterable it X.env x = pure x := by intro _; rfl) : CompOk X G Γ elt tg it [] scope own B (ri.bind fun xs => mapC f xs) :=
  C_comp hi hg (fun _ _ _ _ _ _ => Bs_nil) he hc hok hsl hs
/-! ### None -/
theorem cp_isN (K : Fr) {A : Dt α} : Cp2 K (fun x y H Q => y = .non ∧ Q (.bl (decide (x = .non))) H) (dat (tOpt A)) (dat tNone) fun x _ => x.isNone := fun H D a b va vb fa fb Q le ⟨_, r1⟩ ⟨_, r2⟩ q => by
  refine ⟨r2, ?_⟩
  cases a with
  | none => rw [show va = V.non from r1]; exact q
  | some a => rw [decide_eq_false r1.1]; exact q
theorem B_isN {A : Dt α} {ra : M (Option α)} {rb : M Unit} (ha : ET X G Γ a (dat (tOpt A)) ra) (hb : ET X G Γ b (dat tNone) rb) : BT X G Γ (.Compare a [.Is] [b] pos) (ra.bind fun x => rb.bind fun _ => ok x.isNone) := B_cmp op_isN (cp_isN X.K) (nomark _) ha hb
/-! ### sum, all, any -/
theorem Paired.toInts {K : Fr} {D : Hp} : ∀ {xs : List Int} {vs : List L2.V}, Paired (tInt.rep K D) xs vs → vs = xs.map V.int
  | _, _, .nil => rfl
  | _, _, .cons r t => by rw [List.map_cons, ← Paired.toInts t]; exact congrArg (· :: _) r
theorem Paired.toBls {K : Fr} {D : Hp} : ∀ {xs : List Bool} {vs : List L2.V}, Paired (tBool.rep K D) xs vs → vs = xs.map V.bl
  | _, _, .nil => rfl
  | _, _, .cons r t => by rw [List.map_cons, ← Paired.toBls t]; exact congrArg (· :: _) r
theorem E_all {ra : M (List Bool)} {p : Pos} (hm : X.mg "all" = none) (ha : ET X G Γ a (bor tBool) ra) (hc : G.c = true := by rfl) (hg : Gl X "all" := by rfl) (hs1 : starEach [a] X.env = [(false, eval a X.env)] := by rfl) : ET X G Γ (.Call (.Name "all" p) [a] [] pos) (dat tBool) (ra.bind fun x => ok (x.all id)) := fun w =>
  E_bi1 (A := bor tBool) (R := dat tBool) (cr_all (w.calm hc)) (fun H D a va fa c Q le ⟨_, p, vs, z, h1, h2⟩ hg k => by
    cases hg
    have := Paired.toBls h2
    subst this
    exact ⟨p, a, by rw [z], h1, k _ H D [] (Ext.refl le) ⟨rfl, rfl⟩ .nil⟩) nxok hm (by decide +kernel) ha hg (by decide) (by decide) hs1 rfl w
/-! ### tuples of any length -/
theorem Paired.nil_iff {F : α → L2.V → Prop} {xs : List α} {vs : List L2.V} (h : Paired F xs vs) : vs = [] ↔ xs = [] := by
  cases h with
  | nil => simp
  | cons _ _ => simp
theorem E_catT {A : Dt α} {ra rb : M (List α)} (ha : ET X G Γ a (dat (tRow A)) ra) (hb : ET X G Γ b (dat (tRow A)) rb) : ET X G Γ (.BinOp a .Add b pos) (dat (tRow A)) (ra.bind fun x => rb.bind fun y => pcat x y) :=
  E_op2 (A := dat (tRow A)) (B := dat (tRow A)) (R := dat (tRow A)) op_catA (fun H D xs ys va vb fa fb c Q le ⟨_, p, vs, z1, h1, h2⟩ ⟨_, q, ws, z2, h3, h4⟩ hg k => by
    obtain ⟨g1, g2⟩ := grd_ok hg
    cases g2
    refine ⟨p, q, vs, ws, z1, z2, SqT.mono le h1, SqT.mono le h3, by rw [← h2.length, ← h4.length]; exact g1, fun e => ?_, fun e1 e2 => ?_, fun _ _ r nr => row_new le nr (Paired.append h4 h2) k⟩
    · have : xs = [] := (Paired.nil_iff h2).mp e
      subst this
      exact k _ H D [] (Ext.refl le) ⟨rfl, q, ws, rfl, h3, h4⟩ .nil
    · have : ys = [] := (Paired.nil_iff h4).mp e2
      subst this
      exact k _ H D [] (Ext.refl le) ⟨rfl, p, vs, rfl, h1, by rw [List.append_nil]; exact h2⟩ .nil) (fun _ _ _ => grd_nx (fun z => nomatch z)) ha hb
theorem E_slT {A : Dt α} {ra : M (List α)} {rl rh : M (Option Int)} {lo hi : Option Expr} {p2 : Pos} (ha : ET X G Γ a (dat (tRow A)) ra) (hl : OT X G Γ lo rl) (hh : OT X G Γ hi rh) :
    ET X G Γ (.Subscript a (.Slice lo hi none p2) pos) (dat (tRow A)) (ra.bind fun x => rl.bind fun l => rh.bind fun h => ok (cutL x l h)) :=
  E_sl (A := dat (tRow A)) (Q' := dat (tRow A)) (g := fun x l h => ok (cutL x l h)) sl_tupA ha hl hh (fun _ _ _ _ z => nomatch z) fun H D x v f l h c Q le ⟨_, p, vs, z, h1, h2⟩ hg k => by
    cases hg
    refine ⟨p, vs, z, SqT.mono le h1, fun ⟨e1, e2⟩ => ?_, fun _ q nq => row_new le nq (cutV_paired h2 l h) k⟩
    have : cutL x l h = x := by
      unfold cutL
      rw [h2.length, e1, e2, List.drop_zero, ← h2.length]
      exact List.take_of_length_le (by omega)
    rw [this] at k
    exact k _ H D [] (Ext.refl le) ⟨rfl, p, vs, rfl, h1, h2⟩ .nil
/-! places of a record of three -/
end
end T
set_option maxRecDepth 100000
set_option maxHeartbeats 4000000
namespace HT
open PySem PySem.Spec PyProof.Rows
section
variable {prog : Program} {w : World} {A : Around} {E : Value → Shared → Prop} {s : Shared}
end
end HT
namespace L2
open PySem PySem.Spec PyProof.Rows
section
variable {X : Cx}
end
end L2
namespace T
open PySem PySem.Spec PyProof.Rows L2
section
variable {X : Cx} {G : Ctx} {Γ : Vw} {α β γ δ τ ρ θ C C' : Type} {a b c e it tg : Expr} {pos : Pos} {st : Stmt} {rest B : List Stmt} {R : Rp ρ} {Z : θ → Dest ρ}
theorem J_frzE (i : Nat) {A : Dt α} {xs : List α} {r : M θ} (hf : find i Γ = some (eO i A xs)) (h : JB X G (put (eD i (tLst A) xs) Γ) B R Z r) : JB X G Γ B R Z r := J_frz i h hf
theorem E_revL {A : Dt α} {ra : M (List α)} {k : Nat} {p1 p2 p3 : Pos} (ha : ET X G Γ a (bor A) ra) :
    ET X G Γ (.Subscript a (.Slice none none (some (.UnaryOp .USub (.Constant (.int 1) k p1) p2)) p3) pos) (own A) (ra.bind fun x => ok x.reverse) := fun w =>
  (pe_revL (ha w)).weak fun σ H Q ⟨H0, D0, D, os, hr, x, hx, hp⟩ =>
    seqEE hr hx hp fun i H1 D1 fp v _ hx1 e1 ⟨_, p, vs, z, h1, h2⟩ f1 hr1 hp1 => by
      cases hx1
      exact ⟨p, vs, z, h1, fun q nq => own_new hr1.le nq (Paired.reverse h2) hp1⟩
end
end T
set_option maxRecDepth 100000
set_option maxHeartbeats 4000000
namespace L2
open PySem PySem.Spec PyProof.Rows
section
variable {X : Cx}
end
end L2
namespace T
open PySem PySem.Spec PyProof.Rows L2
theorem Paired.rget {α : Type} {F : α → L2.V → Prop} {xs : List α} {vs : List L2.V} {i : Nat} {x : α} (h : Paired F xs vs) (e : xs.reverse[i]? = some x) : ∃ v, vs[vs.length - 1 - i]? = some v ∧ i < vs.length ∧ F x v := by
  have h2 := Paired.reverse h
  obtain ⟨v, q1, q2⟩ := Paired.get h2 e
  have hi : i < vs.length := by
    have := (List.getElem?_eq_some_iff.mp q1).1
    rwa [List.length_reverse] at this
  rw [List.getElem?_reverse hi] at q1
  exact ⟨v, q1, hi, q2⟩
theorem itok_revL {α : Type} {K : Fr} {D1 : Hp} {A : Dt α} {xs : List α} {p : Addr} {vs : List L2.V} (h1 : SqL K D1 p vs) (h2 : Paired (A.rep K D1) xs vs) : ItOk K (Itv K p vs.length) D1 A xs.reverse := fun i H D e1 e2 => by
  have hS : SqL K H p vs := SqL.mono (e1.trans e2) h1
  refine ⟨fun x hx => ?_, fun hl => by rw [List.length_reverse, h2.length] at hl; exact hl⟩
  obtain ⟨v, q1, qi, q2⟩ := Paired.rget h2 hx
  refine ⟨⟨qi, vs, v, hS, q1⟩, fun u H' ⟨e, y⟩ => ?_⟩
  subst e
  have : some v = some u := q1.symm.trans (y vs hS)
  cases this
  exact ⟨D, Ext.refl e2, A.mono e1 q2⟩
theorem itok_revT {α : Type} {K : Fr} {D1 : Hp} {A : Dt α} {xs : List α} {p : Addr} {vs : List L2.V} (h1 : SqT K D1 p vs) (h2 : Paired (A.rep K D1) xs vs) : ItOk K (RT.ItvT K p vs.length) D1 A xs.reverse := fun i H D e1 e2 => by
  have hS : SqT K H p vs := SqT.mono (e1.trans e2) h1
  refine ⟨fun x hx => ?_, fun hl => by rw [List.length_reverse, h2.length] at hl; exact hl⟩
  obtain ⟨v, q1, qi, q2⟩ := Paired.rget h2 hx
  refine ⟨⟨qi, vs, v, hS, q1⟩, fun u H' ⟨e, y⟩ => ?_⟩
  subst e
  have : some v = some u := q1.symm.trans (y vs hS)
  cases this
  exact ⟨D, Ext.refl e2, A.mono e1 q2⟩
/-- i, i - 1, .. n of them -/
def rangeD (lo : Int) (n : Nat) : List Int := (List.range n).map fun i : Nat => lo - (i : Int)
theorem rangeD_get (lo : Int) (n i : Nat) : (rangeD lo n)[i]? = if i < n then some (lo - (i : Int)) else none := by
  unfold rangeD
  by_cases h : i < n
  · simp [h]
  · simp [h]
theorem rangeD_len (lo : Int) (n : Nat) : (rangeD lo n).length = n := by simp [rangeD]
theorem itok_rangeD {K : Fr} {D1 : Hp} {lo : Int} {n : Nat} : ItOk K (Itc lo (-1) n) D1 tInt (rangeD lo n) := fun i H D e1 e2 => by
  refine ⟨fun x hx => ?_, fun hl => by rw [rangeD_len] at hl; exact hl⟩
  rw [rangeD_get] at hx
  by_cases h : i < n
  · rw [if_pos h] at hx
    cases hx
    refine ⟨h, fun u H' ⟨e, y⟩ => ?_⟩
    subst e
    refine ⟨D, Ext.refl e2, ?_⟩
    show u = V.int _
    rw [y]
    congr 1
    omega
  · rw [if_neg h] at hx; cases hx
section
variable {X : Cx} {G : Ctx} {Γ : Vw} {α β γ δ τ ρ θ C C' : Type} {a b c e it tg : Expr} {pos : Pos} {st : Stmt} {rest B : List Stmt} {R : Rp ρ} {Z : θ → Dest ρ}
theorem I_revL {A : Dt α} {ra : M (List α)} {p : Pos} (hm : X.mg "reversed" = none) (h : ET X G Γ a (dat (tLst A)) ra) (hg : Gl X "reversed" := by rfl) (hs : starEach [a] X.env = (false, eval a X.env) :: starEach [] X.env := by rfl) : ITR X G Γ tg (.Call (.Name "reversed" p) [a] [] pos) A (ra.bind fun x => ok x.reverse) := fun w =>
  (RT.pi_revA hg hm (h w) hs).weak fun σ H Q ⟨H0, D0, D, os, hr, x, hx, hp⟩ => by
    rcases bind_some hx with ⟨xs, rfl, hf⟩ | ⟨e, rfl, rfl⟩
    · cases hf
      exact ⟨H0, D0, D, os, hr, _, rfl, fun v H' D' fp e ⟨_, p, vs, r1, r2, r3⟩ f => ⟨p, vs, r1, .inl ⟨SqL.of (e.dh _ _ r2), hp _ H' D' e (itok_revL (SqL.of r2) r3)⟩⟩⟩
    · exact ⟨H0, D0, D, os, hr, _, rfl, hp⟩
theorem I_revT {A : Dt α} {ra : M (List α)} {p : Pos} (hm : X.mg "reversed" = none) (h : ET X G Γ a (dat (tRow A)) ra) (hg : Gl X "reversed" := by rfl) (hs : starEach [a] X.env = (false, eval a X.env) :: starEach [] X.env := by rfl) : ITR X G Γ tg (.Call (.Name "reversed" p) [a] [] pos) A (ra.bind fun x => ok x.reverse) := fun w =>
  (RT.pi_revA hg hm (h w) hs).weak fun σ H Q ⟨H0, D0, D, os, hr, x, hx, hp⟩ => by
    rcases bind_some hx with ⟨xs, rfl, hf⟩ | ⟨e, rfl, rfl⟩
    · cases hf
      exact ⟨H0, D0, D, os, hr, _, rfl, fun v H' D' fp e ⟨_, p, vs, r1, r2, r3⟩ f => ⟨p, vs, r1, .inr ⟨SqT.mono e.dh r2, hp _ H' D' e (itok_revT r2 r3)⟩⟩⟩
    · exact ⟨H0, D0, D, os, hr, _, rfl, hp⟩
def prangeD (i j : Int) : M (List Int) := grd (-(2 ^ 62) ≤ i ∧ i < 2 ^ 62 ∧ -(2 ^ 62) ≤ j ∧ j < 2 ^ 62) (ok (rangeD i (i - j).toNat))
theorem E_m1 {k : Nat} {p : Pos} : ET X G Γ (.UnaryOp .USub (.Constant (.int 1) k p) pos) (dat tInt) (ok (-1)) := E_eq (E_neg E_int) (by simp only [bind_okS])
theorem I_rangeD {ra rb : M Int} {p p1 p2 : Pos} {k : Nat} (hm : X.mg "range" = none) (ha : ET X G Γ a (dat tInt) ra) (hb : ET X G Γ b (dat tInt) rb) (hg : Gl X "range" := by rfl)
    (hs : starEach [a, b, .UnaryOp .USub (.Constant (.int 1) k p1) p2] X.env = (false, eval a X.env) :: starEach [b, .UnaryOp .USub (.Constant (.int 1) k p1) p2] X.env := by rfl)
    (hs2 : starEach [b, .UnaryOp .USub (.Constant (.int 1) k p1) p2] X.env = (false, eval b X.env) :: starEach [.UnaryOp .USub (.Constant (.int 1) k p1) p2] X.env := by rfl)
    (hs3 : starEach [.UnaryOp .USub (.Constant (.int 1) k p1) p2] X.env = (false, eval (.UnaryOp .USub (.Constant (.int 1) k p1) p2) X.env) :: starEach [] X.env := by rfl)
    (hpl : (backTo pos (starEach [b, .UnaryOp .USub (.Constant (.int 1) k p1) p2] X.env)).any (·.1) = false := by rfl) :
    ITR X G Γ tg (.Call (.Name "range" p) [a, b, .UnaryOp .USub (.Constant (.int 1) k p1) p2] [] pos) tInt (ra.bind fun i => rb.bind fun j => prangeD i j) := fun w =>
  (pi_range3 hg hm (pa_cons (ha w) (pa_cons (hb w) (pa_cons (E_m1 (pos := p2) w) pa_nil hs3) hs2) hs) hs hpl).weak fun σ H Q ⟨H0, D0, D, os, hr, x, hx, hp⟩ => by
    rcases bind_some hx with ⟨i, rfl, hf⟩ | ⟨e, rfl, rfl⟩
    · rcases bind_some hf with ⟨j, rfl, hf⟩ | ⟨e, rfl, rfl⟩
      · obtain ⟨g1, hf⟩ := grd_some hf
        cases hf
        exact ⟨H0, D0, D, os, hr, _, rfl, fun v H' D' fp e ⟨_, r1⟩ f => ⟨H0, D0, D', os, hr.grow e, _, rfl, fun v2 H2 D2 fp2 e2 ⟨_, r2⟩ f2 =>
          ⟨H0, D0, D2, os, (hr.grow e).grow e2, _, rfl, fun v3 H3 D3 fp3 e3 ⟨_, r3⟩ f3 =>
          ⟨i, j, -1, (i - j).toNat, by rw [show v = V.int i from r1, show v2 = V.int j from r2, show v3 = V.int (-1) from r3], RgC.neg g1.1 g1.2.1 g1.2.2.1 g1.2.2.2, hp _ H3 D3 ((e.trans e2).trans e3) itok_rangeD⟩⟩⟩⟩
      · exact ⟨H0, D0, D, os, hr, _, rfl, fun v H' D' fp e ⟨_, r1⟩ f => ⟨H0, D0, D', os, hr.grow e, _, rfl, hp⟩⟩
    · exact ⟨H0, D0, D, os, hr, _, rfl, hp⟩
end
end T
set_option maxRecDepth 100000
set_option maxHeartbeats 4000000
namespace T
open PySem PySem.Spec PyProof.Rows L2
section
variable {X : Cx} {G : Ctx} {Γ : Vw} {α β γ δ τ ρ θ C C' : Type} {a b c e it tg : Expr} {pos : Pos} {st : Stmt} {rest B : List Stmt} {R : Rp ρ} {Z : θ → Dest ρ}
theorem G_rec2K (K0 : Fr) {t1 t2 : Expr} {s1 s2 : List Nat} {A : Dt α} {B : Dt β} {u1 : α → Vw → Vw} {u2 : β → Vw → Vw} {g1 g2 : TG} {k : Nat} {p : Pos} (h1 : GT X t1 s1 A u1 g1) (h2 : GT X t2 s2 B u2 g2) (hK : X.K = K0 := by rfl)
    (hs1 : (assignEach [t1, t2] X.env).map (·.2) = assign t1 X.env :: (assignEach [t2] X.env).map (·.2) := by rfl) (hs2 : (assignEach [t2] X.env).map (·.2) = assign t2 X.env :: (assignEach [] X.env).map (·.2) := by rfl)
    (hn : (assignEach [t1, t2] X.env).length = 2 := by rfl) (hst : (assignEach [t1, t2] X.env).findIdx? (·.1) = none := by rfl) : GT X (.Tuple [t1, t2] k p) (s1 ++ s2) (tRec2 A B) (fun x Γ => u2 x.2 (u1 x.1 Γ)) (gTup K0 2 (gCons g1 (gCons g2 gNil))) := by
  subst hK; exact G_rec2 h1 h2 hs1 hs2 hn hst
theorem E_lenR2 {A : Dt α} {B : Dt β} {ra : M (α × β)} {p : Pos} (hm : X.mg "len" = none) (ha : ET X G Γ a (dat (tRec2 A B)) ra) (hg : Gl X "len" := by rfl) (hs1 : starEach [a] X.env = [(false, eval a X.env)] := by rfl) :
    ET X G Γ (.Call (.Name "len" p) [a] [] pos) (dat tInt) (ra.bind fun _ => ok 2) := E_bi1 (A := dat (tRec2 A B)) (R := dat tInt) (g := fun _ => ok 2) call_len_seq (fun H D a va fa c Q le ⟨_, p, v1, v2, z, h1, h2⟩ hg k => by
    cases hg
    exact ⟨p, _, by rw [z], .inr (SqT.mono le h1), k _ H D [] (Ext.refl le) ⟨rfl, rfl⟩ .nil⟩) nxok hm PySem.boot_len ha hg (by decide) (by decide) hs1 rfl
end
end T
set_option maxRecDepth 100000
set_option maxHeartbeats 4000000
namespace T
open PySem PySem.Spec PyProof.Rows L2
section
variable {X : Cx} {G : Ctx} {Γ : Vw} {α β γ δ τ ρ θ C C' : Type} {a b c e it tg : Expr} {pos : Pos} {st : Stmt} {rest B : List Stmt} {R : Rp ρ} {Z : θ → Dest ρ}
end
end T
namespace T
open PySem PySem.Spec PyProof.Rows L2
/-! ### constants of a module -/
def isIntsB : List Value → List Int → Bool
  | [], [] => true
  | .int i _ :: us, j :: ns => decide (i = j) && isIntsB us ns
  | _, _ => false
theorem isIntsB_vals : ∀ {us : List Value} {ns : List Int}, isIntsB us ns = true → Vals (ns.map V.int) us
  | [], [], _ => .nil
  | .int i t :: us, j :: ns, h => by
    unfold isIntsB at h
    rw [Bool.and_eq_true] at h
    have e := of_decide_eq_true h.1
    subst e
    exact .cons ⟨t, rfl⟩ (isIntsB_vals h.2)
section
variable {K : Fr} {mg : Str → Option Value} {h : Heap} {x : Str} {A : Addr} {od : Option Addr} {its : Array Value} {n : Nat} {sl : Array (Option Value)}
theorem globD_ints {ns : List Int} (X : K.In h) (G : h.Ns mainGlobals mg) (a : PySem.W.nsIn K mainGlobals x = some (some (.ref A))) (l : K.lookup A = some ⟨.type "tuple", od, .seq its n, sl⟩) (q : isIntsB its.toList ns = true) (hz : ns.length ≤ 16777216 := by decide) : GlobD K mg x (tRow tInt) ns := by
  have hv := isIntsB_vals q
  have hlen := hv.length
  rw [List.length_map] at hlen
  refine ⟨.ref A, .ref A, PySem.W.mg_of X G a, rfl, fun H => ⟨A, ns.map V.int, rfl, .inr ⟨_, its, n, l, rfl, rfl, ?_, hv⟩, Paired.ints⟩⟩
  rw [sizeLine_eq, ← Array.length_toList, ← hlen]; exact hz
end
end T
set_option maxRecDepth 100000
set_option maxHeartbeats 4000000
namespace T
open PySem PySem.Spec PyProof.Rows L2
def tRec4 {α β γ δ : Type} (A : Dt α) (B : Dt β) (C : Dt γ) (E : Dt δ) : Dt (α × β × γ × δ) := ⟨fun K H x v => ∃ p v1 v2 v3 v4, v = .ref p ∧ SqT K H p [v1, v2, v3, v4] ∧ A.rep K H x.1 v1 ∧ B.rep K H x.2.1 v2 ∧ C.rep K H x.2.2.1 v3 ∧ E.rep K H x.2.2.2 v4,
  fun e ⟨p, v1, v2, v3, v4, h1, h2, h3, h4, h5, h6⟩ => ⟨p, v1, v2, v3, v4, h1, SqT.mono e h2, A.mono e h3, B.mono e h4, C.mono e h5, E.mono e h6⟩⟩
def asRec2 {α : Type} : List α → M (α × α)
  | [a, b] => ok (a, b)
  | _ => stuck
def asRec4 {α : Type} : List α → M (α × α × α × α)
  | [a, b, c, d] => ok (a, b, c, d)
  | _ => stuck
section
variable {X : Cx} {G : Ctx} {Γ : Vw} {α β γ δ τ ρ θ C C' : Type} {a b c e it tg : Expr} {pos : Pos} {st : Stmt} {rest B : List Stmt} {R : Rp ρ} {Z : θ → Dest ρ}
/-- a conversion of data that nobody makes -/
theorem E_as {A : Dt α} {B : Dt β} {f : α → M β} {r : M α} (nx : NX1 f) (h : ET X G Γ a (dat A) r) (hf : ∀ K H x v y, A.rep K H x v → f x = ok y → B.rep K H y v) : ET X G Γ a (dat B) (r.bind f) := fun w =>
  (h w).weak fun σ H Q ⟨H0, D0, D, os, hr, x, hx, hp⟩ => by
    rcases bind_some hx with ⟨y, rfl, hy⟩ | ⟨e, rfl, rfl⟩
    · cases x with
      | ok z => exact ⟨H0, D0, D, os, hr, _, rfl, fun v H' D' fp e ⟨h1, h2⟩ g => hp v H' D' fp e ⟨h1, hf _ _ _ _ _ h2 hy⟩ g⟩
      | ex e => exact absurd hy (nx _ _)
    · exact ⟨H0, D0, D, os, hr, _, rfl, hp⟩
theorem E_asRec2 {A : Dt α} {r : M (List α)} (h : ET X G Γ a (dat (tRow A)) r) : ET X G Γ a (dat (tRec2 A A)) (r.bind asRec2) :=
  E_as (fun x e z => by unfold asRec2 at z; split at z <;> cases z) h fun K H x v y ⟨p, vs, e, h1, h2⟩ hy => by
    unfold asRec2 at hy
    split at hy
    · cases hy
      cases h2 with
      | cons r1 t => cases t with
        | cons r2 t => cases t; exact ⟨p, _, _, e, h1, r1, r2⟩
    · cases hy
theorem E_asRec4 {A : Dt α} {r : M (List α)} (h : ET X G Γ a (dat (tRow A)) r) : ET X G Γ a (dat (tRec4 A A A A)) (r.bind asRec4) :=
  E_as (fun x e z => by unfold asRec4 at z; split at z <;> cases z) h fun K H x v y ⟨p, vs, e, h1, h2⟩ hy => by
    unfold asRec4 at hy
    split at hy
    · cases hy
      cases h2 with
      | cons r1 t => cases t with
        | cons r2 t => cases t with
          | cons r3 t => cases t with
            | cons r4 t => cases t; exact ⟨p, _, _, _, _, e, h1, r1, r2, r3, r4⟩
    · cases hy
theorem G_rec4K (K0 : Fr) {t1 t2 t3 t4 : Expr} {s1 s2 s3 s4 : List Nat} {A : Dt α} {B : Dt β} {C : Dt γ} {E : Dt δ} {u1 : α → Vw → Vw} {u2 : β → Vw → Vw} {u3 : γ → Vw → Vw} {u4 : δ → Vw → Vw} {g1 g2 g3 g4 : TG} {k : Nat} {p : Pos} (h1 : GT X t1 s1 A u1 g1) (h2 : GT X t2 s2 B u2 g2) (h3 : GT X t3 s3 C u3 g3) (h4 : GT X t4 s4 E u4 g4) (hK : X.K = K0 := by rfl)
    (hs1 : (assignEach [t1, t2, t3, t4] X.env).map (·.2) = assign t1 X.env :: (assignEach [t2, t3, t4] X.env).map (·.2) := by rfl) (hs2 : (assignEach [t2, t3, t4] X.env).map (·.2) = assign t2 X.env :: (assignEach [t3, t4] X.env).map (·.2) := by rfl) (hs3 : (assignEach [t3, t4] X.env).map (·.2) = assign t3 X.env :: (assignEach [t4] X.env).map (·.2) := by rfl) (hs4 : (assignEach [t4] X.env).map (·.2) = assign t4 X.env :: (assignEach [] X.env).map (·.2) := by rfl)
    (hn : (assignEach [t1, t2, t3, t4] X.env).length = 4 := by rfl) (hst : (assignEach [t1, t2, t3, t4] X.env).findIdx? (·.1) = none := by rfl) : GT X (.Tuple [t1, t2, t3, t4] k p) (s1 ++ s2 ++ s3 ++ s4) (tRec4 A B C E) (fun x Γ => u4 x.2.2.2 (u3 x.2.2.1 (u2 x.2.1 (u1 x.1 Γ)))) (gTup K0 4 (gCons g1 (gCons g2 (gCons g3 (gCons g4 gNil))))) := by
  subst hK
  exact ⟨fun nd hc => by
    obtain ⟨p1, q1⟩ := h1.ex nd hc
    obtain ⟨p2, q2⟩ := h2.ex nd hc
    obtain ⟨p3, q3⟩ := h3.ex nd hc
    obtain ⟨p4, q4⟩ := h4.ex nd hc
    refine ⟨pg_tup hc (pgs_cons p1 (pgs_cons p2 (pgs_cons p3 (pgs_cons p4 pgs_nil hs4) hs3) hs2) hs1) hn hst, fun H0 D0 H D Γ σ os x v Q hl hr ⟨p, v1, v2, v3, v4, r1, r2, r3, r4, r5, r6⟩ k => ?_⟩
    refine ⟨p, [v1, v2, v3, v4], r1, SqT.mono hr.le r2, rfl, v1, [v2, v3, v4], rfl, q1 H0 D0 H D Γ σ os x.1 v1 _ hl hr r3 fun σ' os' hl' hw' hr' => ⟨v2, [v3, v4], rfl, q2 H0 D0 H D _ σ' os' x.2.1 v2 _ hl' hr' r4 fun σ2 os2 hl2 hw2 hr2 => ⟨v3, [v4], rfl, q3 H0 D0 H D _ σ2 os2 x.2.2.1 v3 _ hl2 hr2 r5 fun σ3 os3 hl3 hw3 hr3 => ⟨v4, [], rfl, q4 H0 D0 H D _ σ3 os3 x.2.2.2 v4 _ hl3 hr3 r6 fun σ4 os4 hl4 hw4 hr4 => ⟨rfl, k σ4 os4 hl4 (fun vs h => ?_) hr4⟩⟩⟩⟩⟩
    rw [hw4 vs fun i hi => h i (List.mem_append_right _ hi), hw3 vs fun i hi => h i (List.mem_append_left _ (List.mem_append_right _ hi)), hw2 vs fun i hi => h i (List.mem_append_left _ (List.mem_append_left _ (List.mem_append_right _ hi))), hw' vs fun i hi => h i (List.mem_append_left _ (List.mem_append_left _ (List.mem_append_left _ hi)))]⟩
end
end T
set_option maxRecDepth 100000
set_option maxHeartbeats 4000000
namespace T
open PySem PySem.Spec PyProof.Rows L2
/-! ### exceptions of the program's own -/
/-- an own class without an own __init__ -/
structure XPl (K : Fr) (mg : Str → Option Value) (x : Str) : Prop where
  ex : ∃ C, mg x = some (.ref C) ∧ PySem.W.excIn K C [.type "ValueError", .type "Exception", .type "BaseException", .type "object"] "ValueError.__new__" = true ∧ PySem.W.keepIn K (.ref C) = true ∧
    PySem.W.subIn K (.ref C) (.type "BaseException") = some true ∧ PySem.W.typeIn K (.ref C) = some (.type "type")
section
variable {X : Cx} {G : Ctx} {Γ : Vw} {α β γ δ τ ρ θ C C' : Type} {a b c e it tg : Expr} {pos : Pos} {st : Stmt} {rest B : List Stmt} {R : Rp ρ} {Z : θ → Dest ρ}
theorem S_raise {x m : Str} {j : Nat} {p p2 p3 : Pos} (F : XPl X.K X.mg x) (is : List Nat) (hv : pick is Γ = G.Vx := by rfl) (hc : G.c = true := by rfl) (hg : Gl X x := by rfl) (hd : (x == ("__debug__" : Str)) = false := by decide) :
    JS X G Γ (.Raise (some (.Call (.Name x p) [.Constant (.str m) j p2] [] p3)) none pos) R Z (exc ⟨x, []⟩ : M θ) := fun w => by
  obtain ⟨Cl, hm, xP, kP, bP, tP⟩ := F.ex
  refine (ps_raise (w.calm hc) w.tk (pmk_own PySem.F.excBase_ValueError xP hm kP (raises_own bP tP) hg hd)).weak fun E σ H ⟨H0, D0, D, os, hr, y, hx, hp⟩ => ?_
  cases hx
  obtain ⟨os', q⟩ := hr.pick is
  rw [hv] at q
  exact hp (.ref Cl) none σ H D os' q ⟨Cl, hm, rfl, rfl⟩
end
section
variable {X : Cx} {G : Ctx} {Γ : Vw} {α β γ δ τ ρ θ C C' : Type} {a b c e it tg : Expr} {pos : Pos} {st : Stmt} {rest B : List Stmt} {R : Rp ρ} {Z : θ → Dest ρ}
/-! ### try .. except X -/
/-- which of the classes named in the table stand under x -/
structure XSub (K : Fr) (mg : Str → Option Value) (x : Str) (tbl : List (Str × Bool)) : Prop where
  ex : ∃ C, mg x = some (.ref C) ∧ ∀ n b, tbl.lookup n = some b → ∀ Cn, mg n = some (.ref Cn) → PySem.W.exmOne K (.ref Cn) (.ref C) = some b
def tryM {θ : Type} (tbl : List (Str × Bool)) (rb rs : M θ) : M θ := match rb with
  | none => none
  | some (.ok a) => ok a
  | some (.ex e) => match tbl.lookup e.cls with
    | some true => noX rs
    | some false => exc e
    | none => none
theorem S_try {x : Str} {body suite : List Stmt} {b0 : Stmt} {np pos' : Pos} (tbl : List (Str × Bool)) {rb rs : M θ} (F : XSub X.K X.mg x tbl) (is iv : List Nat)
    (hb : ∀ (W : WX) (pn : List (Addr × Obj)) (xe : Value → Shared → Prop), JB (X.tr pn xe) ⟨W, pick is Γ, G.k, G.c⟩ Γ body R Z rb)
    (hs : ∀ (a : Addr) (pn : List (Addr × Obj)), JB (X.suite a pn) ⟨fun _ _ _ _ => False, [], G.k, false⟩ (pick is Γ) (b0 :: suite) R Z rs)
    (hv : pick iv (pick is Γ) = G.Vx := by rfl) (hg : Gl X x := by rfl) (hd : (x == ("__debug__" : Str)) = false := by decide)
    (hst : X.stack = X.env :: X.outer := by rfl) (hf : X.env.frame = some X.env.locals := by rfl) :
    JS X G Γ (.Try body [.ExceptHandler (some (.Name x np)) none (b0 :: suite) pos'] [] [] pos) R Z (tryM tbl rb rs) := fun w => by
  obtain ⟨Cl, hm, hsub⟩ := F.ex
  refine (ps_try_only (tb := fun W => tJ X.K X.mg ⟨W, pick is Γ, G.k, G.c⟩ Γ R Z rb) (ts := fun a cls d => tJ X.K X.mg ⟨fun _ _ _ _ => False, [], G.k, false⟩ (pick is Γ) R Z rs) hst hf ⟨hg, hd, .inl hm⟩ w.tk
    (fun W pn xe tk po => hb W pn xe ⟨tk, w.nd, w.room, w.calm, w.hu, po⟩)
    (fun a oe cls d pn hz hf => hs a _ ⟨takes0, w.nd, (fun z => nomatch z), (fun z => nomatch z), w.hu, PassesOwn.never⟩)).weak fun E σ H ⟨H0, D0, D, os, hr, y, hx, hp⟩ => ?_
  cases rb with
  | none => cases hx
  | some rb =>
    cases rb with
    | ok t =>
      cases hx
      exact ⟨H0, D0, D, os, hr, _, rfl, hp⟩
    | ex e =>
      refine ⟨H0, D0, D, os, hr, _, rfl, fun c d σ' H' D' os' r q => ?_⟩
      obtain ⟨Cn, hn, rfl, hfs⟩ := id q
      have hx : (match tbl.lookup e.cls with | some true => noX rs | some false => exc e | none => none) = some y := hx
      cases hl : tbl.lookup e.cls with
      | none => rw [hl] at hx; cases hx
      | some b =>
        rw [hl] at hx
        refine ⟨b, hsub _ _ hl _ hn, fun hb a _ => ?_, fun hb => ?_⟩
        · subst hb
          obtain ⟨t, rfl, rfl⟩ := noX_some hx
          exact ⟨H0, D0, D', os', r, _, rfl, hp⟩
        · subst hb
          cases hx
          obtain ⟨os2, q2⟩ := r.pick iv
          rw [hv] at q2
          exact hp _ d σ' H' D' os2 q2 q
end
end T
set_option maxRecDepth 100000
set_option maxHeartbeats 4000000
namespace T
open PySem PySem.Spec PyProof.Rows L2
/-! ### objects with fields, made once -/
def XFp (K : Fr) (D : Hp) (p : Str × XF) (q : Str × L2.V) : Prop := p.1 = q.1 ∧ XFrep K D p.2 q.2
theorem XFrep.mono {K : Fr} {D D' : Hp} (e : Le D D') : ∀ {x : XF} {v : L2.V}, XFrep K D x v → XFrep K D' x v
  | .int _, _, h => h
  | .row _, _, h => (tRow tInt).mono e h
  | .str _, _, h => h
theorem XFp.monos {K : Fr} {D D' : Hp} (e : Le D D') : ∀ {xs : List (Str × XF)} {vs : List (Str × L2.V)}, Paired (XFp K D) xs vs → Paired (XFp K D') xs vs
  | _, _, .nil => .nil
  | _, _, .cons r t => .cons ⟨r.1, r.2.mono e⟩ (XFp.monos e t)
/-- an object that nobody changes any more -/
def tObj {ρ : Type} (toF : ρ → List (Str × XF)) : Dt ρ := ⟨fun K H x v => ∃ p Cl dx vs, v = .ref p ∧ H p = some (.ins Cl dx vs) ∧ Cls K Cl ∧ (∀ f ∈ (toF x).map (·.1), NoAttr K Cl f) ∧ Paired (XFp K H) (toF x) vs,
  fun {K H H' a v} e h => by
    obtain ⟨p, Cl, dx, vs, h1, h2, h3, h4, h5⟩ := h
    exact ⟨p, Cl, dx, vs, h1, e _ _ h2, h3, h4, XFp.monos e h5⟩⟩
section
variable {X : Cx} {G : Ctx} {Γ : Vw} {α β γ δ τ ρ θ C C' : Type} {a b c e it tg : Expr} {pos : Pos} {st : Stmt} {rest : List Stmt} {R : Rp ρ} {Z : θ → Dest ρ}
end
/-! ### a class's __init__ -/
section
variable {X : Cx} {G : Ctx} {Γ : Vw} {τ ρ : Type} {e : Expr} {es : List Expr} {pos p : Pos}
end
end T
set_option maxRecDepth 100000
set_option maxHeartbeats 4000000
namespace T
open PySem PySem.Spec PyProof.Rows L2
/-! ### what the written part says of classes -/
section
variable {P : Program} {w : World} {K : Fr} {mg : Str → Option Value} {base : Heap} {h : Heap} {x : Str} {C : Addr}
theorem xpl_mk (X : K.In h) (G : h.Ns mainGlobals mg) (a : PySem.W.nsIn K mainGlobals x = some (some (.ref C))) (q : PySem.W.excIn K C [.type "ValueError", .type "Exception", .type "BaseException", .type "object"] "ValueError.__new__" = true)
    (k : PySem.W.keepIn K (.ref C) = true) (b : PySem.W.subIn K (.ref C) (.type "BaseException") = some true) (t : PySem.W.typeIn K (.ref C) = some (.type "type")) : XPl K mg x := ⟨C, PySem.W.mg_of X G a, q, k, b, t⟩
def SubRow (K : Fr) (mg : Str → Option Value) (C : Addr) (p : Str × Bool) : Prop := ∃ Cn, mg p.1 = some (.ref Cn) ∧ PySem.W.subIn K (.ref Cn) (.ref C) = some p.2
theorem sub_row (X : K.In h) (G : h.Ns mainGlobals mg) {n : Str} {Cn : Addr} {b : Bool} (a : PySem.W.nsIn K mainGlobals n = some (some (.ref Cn))) (s : PySem.W.subIn K (.ref Cn) (.ref C) = some b) : SubRow K mg C (n, b) := ⟨Cn, PySem.W.mg_of X G a, s⟩
theorem all_nil {α : Type} {P : α → Prop} : ∀ x ∈ ([] : List α), P x := fun _ z => nomatch z
theorem all_cons {α : Type} {P : α → Prop} {a : α} {l : List α} (h : P a) (t : ∀ x ∈ l, P x) : ∀ x ∈ a :: l, P x := fun x hx => by
  rcases List.mem_cons.mp hx with z | z
  · rw [z]; exact h
  · exact t x z
theorem look_mem {β : Type} {n : Str} {b : β} : ∀ {l : List (Str × β)}, l.lookup n = some b → (n, b) ∈ l
  | [], z => nomatch z
  | (m, c) :: l, z => by
    by_cases e : (n == m) = true
    · simp only [List.lookup, e] at z
      cases z
      rw [show n = m from eq_of_beq e]; exact List.mem_cons_self
    · have e' : (n == m) = false := by simpa using e
      simp only [List.lookup, e'] at z
      exact List.mem_cons_of_mem _ (look_mem z)
theorem xsub_mk (X : K.In h) (G : h.Ns mainGlobals mg) {tbl : List (Str × Bool)} (a : PySem.W.nsIn K mainGlobals x = some (some (.ref C))) (b : PySem.W.subIn K (.ref C) (.type "BaseException") = some true) (d : PySem.W.hasDictIn K C = true)
    (t : PySem.W.typeIn K (.ref C) = some (.type "type")) (all : ∀ p ∈ tbl, SubRow K mg C p) : XSub K mg x tbl := ⟨C, PySem.W.mg_of X G a, fun n c hl Cn hn => by
  obtain ⟨C', h1, h2⟩ := all _ (look_mem hl)
  rw [show mg n = some (.ref C') from h1] at hn
  cases hn
  exact PySem.W.exm_ref b d t h2⟩
end
/-! ### the ring -/
abbrev Rg : Type := List Int × Int × Int
theorem nn_obj {ρ : Type} {toF : ρ → List (Str × XF)} {K : Fr} {H : Hp} {x : ρ} {v : L2.V} (h : (tObj toF).rep K H x v) : v ≠ .non := by obtain ⟨p, _, _, _, e, _⟩ := h; rw [e]; exact fun z => nomatch z
end T
set_option maxRecDepth 100000
set_option maxHeartbeats 4000000
namespace T
open PySem PySem.Spec PyProof.Rows L2
/-! ### sorted, of rows of one length -/
theorem code_inj {B : Int} : ∀ {a b : List Int}, a.length = b.length → TS.Bd B a → TS.Bd B b → TS.code B a = TS.code B b → a = b
  | [], [], _, _, _, _ => rfl
  | [], _ :: _, h, _, _, _ => nomatch h
  | _ :: _, [], h, _, _, _ => nomatch h
  | d :: r, e :: q, hl, ha, hb, h => by
    have hl' : r.length = q.length := by simpa using hl
    rcases Int.lt_trichotomy d e with z | z | z
    · have := TS.code_lt hl' ha.tail hb.tail z; omega
    · subst z
      have h' : TS.code B r = TS.code B q := by
        have e1 : ¬ TS.code B r < TS.code B q := fun k => by have := (TS.code_same (d := d) hl').mpr k; omega
        have e2 : ¬ TS.code B q < TS.code B r := fun k => by have := (TS.code_same (d := d) hl'.symm).mpr k; omega
        omega
      rw [code_inj hl' ha.tail hb.tail h']
    · have := TS.code_lt hl'.symm hb.tail ha.tail z; omega
def sortOk (xs : List (List Int)) : Bool := decide (xs.length < 64) && decide (0 < (xs.headD [0]).length) && xs.all fun x => decide (x.length = (xs.headD [0]).length) && x.all fun m => decide (0 ≤ m) && decide (m < 1000)
def sortT (xs : List (List Int)) : List (List Int) := xs.mergeSort fun a b => decide (TS.code 1000 a ≤ TS.code 1000 b)
def psortT (xs : List (List Int)) : M (List (List Int)) := grd (sortOk xs = true) (ok (sortT xs))
theorem Paired.perm {α : Type} {F : α → L2.V → Prop} {ys vs : List L2.V} (h : ys.Perm vs) : ∀ {xs : List α}, Paired F xs vs → ∃ zs, zs.Perm xs ∧ Paired F zs ys := by
  induction h with
  | nil => exact fun h => by cases h; exact ⟨[], List.Perm.refl _, .nil⟩
  | cons v _ ih =>
    intro xs h
    cases h with
    | cons r t =>
      obtain ⟨zs, p, q⟩ := ih t
      exact ⟨_ :: zs, p.cons _, .cons r q⟩
  | swap v u l =>
    intro xs h
    cases h with
    | cons r t =>
      cases t with
      | cons r2 t2 => exact ⟨_, List.Perm.swap .., .cons r2 (.cons r t2)⟩
  | trans _ _ ih1 ih2 =>
    intro xs h
    obtain ⟨zs, p, q⟩ := ih2 h
    obtain ⟨ws, p2, q2⟩ := ih1 q
    exact ⟨ws, p2.trans p, q2⟩
theorem Paired.pw {α : Type} {F : α → L2.V → Prop} {R : L2.V → L2.V → Prop} {S : α → α → Prop} (hRS : ∀ x y a b, F x a → F y b → R a b → S x y) : ∀ {xs : List α} {vs : List L2.V}, Paired F xs vs → vs.Pairwise R → xs.Pairwise S
  | _, _, .nil, _ => .nil
  | _, _, .cons r t, h => by
    obtain ⟨h1, h2⟩ := List.pairwise_cons.mp h
    refine List.pairwise_cons.mpr ⟨fun y hy => ?_, Paired.pw hRS t h2⟩
    obtain ⟨i, hi⟩ := List.getElem?_of_mem hy
    obtain ⟨v, hv, hF⟩ := Paired.get t hi
    exact hRS _ _ _ _ r hF (h1 v (List.mem_of_getElem? hv))
theorem Paired.mem {α : Type} {F : α → L2.V → Prop} {v : L2.V} : ∀ {xs : List α} {vs : List L2.V}, Paired F xs vs → v ∈ vs → ∃ x ∈ xs, F x v
  | _, _, .nil, h => nomatch h
  | _, _, .cons r t, h => by
    rcases List.mem_cons.mp h with z | z
    · subst z; exact ⟨_, List.mem_cons_self, r⟩
    · obtain ⟨x, hx, hF⟩ := Paired.mem t z
      exact ⟨x, List.mem_cons_of_mem _ hx, hF⟩
theorem row_tup {K : Fr} {D H : Hp} {x : List Int} {v : L2.V} (le : Le D H) (h : (tRow tInt).rep K D x v) : TupI K H v x := by
  obtain ⟨p, vs, rfl, h1, h2⟩ := h
  rw [Paired.toInts h2] at h1
  exact ⟨p, rfl, SqT.mono le h1⟩
section
variable {X : Cx} {G : Ctx} {Γ : Vw} {α β γ δ τ ρ θ C C' : Type} {a b c e it tg : Expr} {pos : Pos} {st : Stmt} {rest : List Stmt} {R : Rp ρ} {Z : θ → Dest ρ}
theorem cr_sortE {X : Cx} {B : Int} : CallR X (.builtin "sorted") (fun vs H Q => ∃ d, 1 ≤ d ∧ rSortU X.K d B vs H Q) := by
  intro pins s σ H vs us Q I r ⟨d, hd, h⟩
  exact cr_sortT hd pins s σ H vs us Q I r h
theorem sortOk_ok {xs : List (List Int)} (h : sortOk xs = true) : xs.length < 64 ∧ ∃ d, 1 ≤ d ∧ ∀ x ∈ xs, x.length = d ∧ TS.Bd 1000 x := by
  unfold sortOk at h
  simp only [Bool.and_eq_true, decide_eq_true_eq, List.all_eq_true] at h
  exact ⟨h.1.1, _, h.1.2, fun x hx => ⟨(h.2 x hx).1, fun m hm => (h.2 x hx).2 m hm⟩⟩
theorem E_sortT {ra : M (List (List Int))} {p : Pos} (hm : X.mg "sorted" = none) (ha : ET X G Γ a (bor (tRow tInt)) ra) (hg : Gl X "sorted" := by rfl) (hs1 : starEach [a] X.env = [(false, eval a X.env)] := by rfl) :
    ET X G Γ (.Call (.Name "sorted" p) [a] [] pos) (own (tRow tInt)) (ra.bind fun x => psortT x) := fun w =>
  E_bi1 (A := bor (tRow tInt)) (R := own (tRow tInt)) (g := psortT) (cr_sortE (B := 1000)) (fun H D a va fa c Q le ⟨_, p, vs, z, h1, h2⟩ hg k => by
    subst z
    obtain ⟨g1, g2⟩ := grd_ok hg
    cases g2
    obtain ⟨h64, d, hd, hall⟩ := sortOk_ok g1
    refine ⟨d, hd, p, vs, rfl, h1, by rw [← h2.length]; exact h64, fun v hv => ?_, fun ys q hp hpw nq => ?_⟩
    · obtain ⟨x, hx, hF⟩ := Paired.mem h2 hv
      exact ⟨x, row_tup le hF, hall x hx⟩
    · obtain ⟨zs, p1, p2⟩ := Paired.perm hp h2
      have hz : zs = sortT a := by
        refine List.Perm.eq_of_pairwise (le := fun a b => TS.code 1000 a ≤ TS.code 1000 b) (fun x y hx hy l1 l2 => ?_) (Paired.pw (fun x y u v hu hv hr => hr x y (row_tup le hu) (row_tup le hv)) p2 hpw) ?_ (p1.trans (List.mergeSort_perm _ _).symm)
        · obtain ⟨x1, x2⟩ := hall x (p1.subset hx)
          obtain ⟨y1, y2⟩ := hall y ((List.mergeSort_perm _ _).subset hy)
          exact code_inj (x1.trans y1.symm) x2 y2 (by omega)
        · have := List.pairwise_mergeSort (le := fun a b => decide (TS.code 1000 a ≤ TS.code 1000 b)) (fun a b c h1 h2 => by simp at *; omega) (fun a b => by simp; omega) a
          exact this.imp (fun h => by simpa using h)
      rw [hz] at p2
      exact own_new le nq p2 k) (fun xs e => grd_nx (fun z => nomatch z)) hm (by decide +kernel) ha hg (by decide) (by decide) hs1 rfl w
end
end T
set_option maxRecDepth 100000
namespace T
open PySem PySem.Spec PyProof.Rows L2
section
variable {X : Cx} {G : Ctx} {Γ : Vw} {pos : Pos}
/-! ### list(range(i, j)) -/
instance (i j : Int) : Decidable (L2.RgOk i j) := by unfold L2.RgOk; exact inferInstance
/-! ### is, of two truth values -/
end
end T
set_option maxRecDepth 100000
namespace T
open PySem PySem.Spec PyProof.Rows L2
/-! ### short lists of places of unlike types, that nobody changes -/
section
variable {X : Cx} {G : Ctx} {Γ : Vw} {pos : Pos} {α β γ : Type}
end
end T
set_option maxRecDepth 100000
set_option maxHeartbeats 4000000
namespace T
open PySem PySem.Spec PyProof.Rows L2
/-! ### try with clauses, some of which name what they caught -/
/-- one clause: the class, the slot of the name (where there is one), what its suite does -/
structure Cl where
  c : Value
  at_ : Option Nat
  t : Addr → Value → Option Addr → TS
def Cl.ends (q : Cl) (D : Ends) : Ends := match q.at_ with
  | none => D
  | some i => { nx := fun σ H => D.nx (σ.set i none) H, rt := D.rt, bk := fun σ H => D.bk (σ.set i none) H, ct := fun σ H => D.ct (σ.set i none) H }
def Cl.st (q : Cl) (a : Addr) (σ : L2.St) : L2.St := match q.at_ with
  | none => σ
  | some i => σ.set i (some (.ref a))
/-- the clauses' wish, one after the other -/
def wishes (K : Fr) (n : Nat) (W0 : WX) (D : Ends) : List Cl → WX
  | [] => W0
  | q :: r => fun k d σ H => ∃ b, PySem.W.exmOne K k q.c = some b ∧ (b = true → ∀ a, H a = none → σ.length = n → q.t a k d (q.ends D) (q.st a σ) H) ∧ (b = false → wishes K n W0 D r k d σ H)
/-- the name of a clause is a local one, at its slot -/
def ClAt (X : Cx) (nm : Option Str) (q : Cl) : Prop := match nm, q.at_ with
  | none, none => True
  | some n, some i => X.N[i]? = some n ∧ X.env.kindOf n = some .local
  | _, _ => False
inductive Cls' (X : Cx) : List ExceptHandler → List Cl → Prop
  | nil : Cls' X [] []
  | cons {x : Str} {nm : Option Str} {q : Cl} {b0 : Stmt} {bs : List Stmt} {p1 p2 : Pos} {hs : List ExceptHandler} {l : List Cl} (hc : Names X x q.c) (ha : ClAt X nm q)
      (hb : ∀ (a : Addr) (o : Obj) (k : Value) (d : Option Addr) (pn : List (Addr × Obj)), Zc k d o → (∃ vs, o.data = .fields vs) → PSs (X.suite a ((a, o) :: pn)) (b0 :: bs) (q.t a k d)) (r : Cls' X hs l) :
      Cls' X (.ExceptHandler (some (.Name x p1)) nm (b0 :: bs) p2 :: hs) (q :: l)
section
variable {X : Cx} {body : List Stmt} {hd0 : ExceptHandler} {hds : List ExceptHandler} {l : List Cl} {pos : Pos} {tb : WX → TS} {W0 : WX}
theorem ps_clauses (hN : X.N.Nodup) (hst : X.stack = X.env :: X.outer) (hfr : X.env.frame = some X.env.locals) (htk : Takes X W0)
    (hbody : ∀ (W : WX) (pn : List (Addr × Obj)) (xe : Value → Shared → Prop), Takes (X.tr pn xe) W → PassesOwn (model X.prog X.w) X.A X.env xe → PSs (X.tr pn xe) body (tb W))
    (hcl : Cls' X (hd0 :: hds) l) : PS X (.Try body (hd0 :: hds) [] [] pos) (fun D σ H => tb (wishes X.K X.N.length W0 D l) D σ H) := by
  refine ⟨fun pins s0 σ H D Iv hw => ?_⟩
  have okI := Iv.ok
  have hAf : X.A.frames = some (X.env :: X.outer) := by rw [okI.frames, hst]
  refine wpAny_Try_except ?_
  have run := (hbody (wishes X.K X.N.length W0 D l) (X.pn ++ pins) (fun e t1 => wpAny (model X.prog X.w) X.A (noteFrame e X.env) (fun _ t2 => wpAny (model X.prog X.w) X.A (setFlight e none) (fun _ t3 => wpAny (model X.prog X.w) X.A (handleBy e X.env (hd0 :: hds)) (SP X pins D) X.xe t3) X.xe t2) X.xe t1) (fun u z0 caught => ?_) PassesOwn.looking).run [] s0 σ H D (Iv.toTry _) hw
  · refine wpAny_mono run (fun fl z1 hz1 => ?_) (fun e z1 q => q)
    cases fl with
    | next =>
      obtain ⟨τ, G1, I1, q1⟩ := hz1
      exact wpAny_execs_nil ⟨τ, G1, I1.ofTry okI, q1⟩
    | brk =>
      obtain ⟨τ, G1, I1, q1⟩ := hz1
      exact ⟨τ, G1, I1.ofTry okI, q1⟩
    | cont =>
      obtain ⟨τ, G1, I1, q1⟩ := hz1
      exact ⟨τ, G1, I1.ofTry okI, q1⟩
    | ret u =>
      obtain ⟨v, τ, G1, I1, r1, q1⟩ := hz1
      exact ⟨v, τ, G1, I1.ofTry okI, r1, q1⟩
  · -- what was caught
    obtain ⟨a, Bf, zI, pinsI, τ, G1, k, d, rfl, It, nb, up0, sky0, na, os, ag, wi⟩ := caught
    have I1 : Inv X pins τ G1 zI := It.ofTry okI
    have sky1 : Sky Bf (X.env :: X.outer) a (Zc k d) X.env.locals z0.heap := by rw [← hst]; exact sky0
    show wpAny (model X.prog X.w) X.A (noteFrame (.ref a) X.env) (fun _ t2 => _) _ z0
    refine Sky.land Zc.steady hAf hfr sky1 fun g3 f3 u3 => ?_
    have I3 : Inv X pins τ G1 { z0 with heap := g3 } := I1.landed nb f3.1 (up0.trans u3) os ag
    obtain ⟨o3, vs3, ho3, hz3, hd3⟩ := f3.there
    have outF : a ∉ frs (X.env :: X.outer) := fun hm => by
      obtain ⟨_, oo, eo, nf⟩ := f3.2.2.1.mem hm
      rw [ho3] at eo
      cases eo
      exact nf _ hd3
    have outL : a ≠ X.env.locals := fun z => outF (List.mem_filterMap.mpr ⟨X.env, List.mem_cons_self, by rw [hfr, z]⟩)
    have outS : a ∉ X.fs := fun hm => by
      obtain ⟨e, he, q⟩ := List.mem_filterMap.mp hm
      exact outF (List.mem_filterMap.mpr ⟨e, List.mem_cons_of_mem _ he, q⟩)
    have IS := I3.suite ho3 hd3 na outL outS
    have walk : ∀ {hs' : List ExceptHandler} {l' : List Cl}, Cls' X hs' l' → wishes X.K X.N.length W0 D l' k d τ G1 → wpAny (model X.prog X.w) X.A (handleBy (.ref a) X.env hs') (SP X pins D) X.xe { z0 with heap := g3 } := by
      intro hs' l' hk
      induction hk with
      | nil =>
        intro wi
        refine wpAny_handleBy_nil ?_
        obtain ⟨y1, y2, y3, o, vs, T0, oT, tt, he, hz, hdd, hh1, hr⟩ := id f3
        unfold PySem.passOn
        refine wpAny_bind (wpAny_field he hdd hh1 ?_)
        rw [if_neg (by simp : ¬ ((Value.ref T0 == Value.none) = true))]
        have on : wpAny (model X.prog X.w) X.A (setFlight (.ref a) X.env.frame) (fun _ z4 => wpAny (model X.prog X.w) X.A (throw (.ref a) : Sem Flow) (SP X pins D) X.xe z4) X.xe { z0 with heap := g3 } := by
          rw [hfr]
          refine HandSPX.setFlight_upZ f3 fun g4 hg4 u4 => wpAny_throw (htk _ _ ?_)
          refine ⟨a, Bf, zI, pins, τ, G1, k, d, rfl, I1, nb, (up0.trans u3).trans u4, .inr (.inr ?_), na, os, ag, wi⟩
          rw [hst]; exact hg4
        first
          | exact wpAny_bind (wpAny_pure (wpAny_bind on))
          | exact wpAny_bind on
      | @cons x nm q b0 bs p1 p2 hs2 l2 hc ha hb r ih =>
        intro wi
        obtain ⟨b, hb1, yes, no⟩ := wi
        refine wpAny_handleBy_cons (codeAny_handlers_test ?_) (fun z => by cases z)
        have look : PySem.W.Looks (model X.prog X.w) g3 (typeOf (.ref a)) k := fun A' Q' E' t' kp qq => wpAny_typeOf_ref (kp _ _ ho3) (by rw [hz3.1]; exact qq)
        have LM := PySem.W.exm_one (M := model X.prog X.w) (I3.kIn) look hb1
        have ask : ∀ {Q : Value → Shared → Prop} {E : Value → Shared → Prop}, Q q.c { z0 with heap := g3 } → wpAny (model X.prog X.w) (X.A.mark (some (.ref a))) (eval (.Name x p1) X.env) Q E { z0 with heap := g3 } := fun {Q E} hq => by
          obtain ⟨g, db, m1 | ⟨m1, m2, m3⟩⟩ := hc
          · exact ld_glob (X := X.suite a ((a, o3) :: (X.pn ++ pins))) IS g m1 hq db
          · exact ld_blt (X := X.suite a ((a, o3) :: (X.pn ++ pins))) IS g m1 m2 hq m3 db
        refine ask (LM.here ?_)
        cases b with
        | false =>
          show wpAny _ X.A (handleBy (.ref a) X.env hs2) (SP X pins D) _ _
          exact ih (no rfl)
        | true =>
          cases nm with
          | none =>
            have hat : q.at_ = none := by
              cases e : q.at_ with
              | none => rfl
              | some i => unfold ClAt at ha; rw [e] at ha; exact ha.elim
            have wy := yes rfl a na I1.len
            unfold Cl.ends Cl.st at wy
            rw [hat] at wy
            refine codeAny_handlers_suite ?_
            refine HandSPX.lands_againZ f3 fun g4 f4 u4 => ?_
            have I4 : Inv X pins τ G1 { z0 with heap := g4 } := I1.landed nb f4.1 ((up0.trans u3).trans u4) os ag
            obtain ⟨o4, vs4, ho4, hz4, hd4⟩ := f4.there
            refine wpAny_mono ((hb a o4 k d (X.pn ++ pins) hz4 ⟨_, hd4⟩).run [] _ _ G1 _ (I4.suite ho4 hd4 na outL outS) wy) (fun fl z6 hz6 => ?_) (fun _ _ z => False.elim z)
            cases fl with
            | next =>
              obtain ⟨τ6, G6, I6, q6⟩ := hz6
              exact ⟨_, _, I6.unsuite okI, q6⟩
            | brk =>
              obtain ⟨τ6, G6, I6, q6⟩ := hz6
              exact ⟨_, _, I6.unsuite okI, q6⟩
            | cont =>
              obtain ⟨τ6, G6, I6, q6⟩ := hz6
              exact ⟨_, _, I6.unsuite okI, q6⟩
            | ret u =>
              obtain ⟨v6, τ6, G6, I6, r6, q6⟩ := hz6
              exact ⟨v6, _, _, I6.unsuite okI, r6, q6⟩
          | some n =>
            obtain ⟨i, hat, hix, hlo⟩ : ∃ i, q.at_ = some i ∧ X.N[i]? = some n ∧ X.env.kindOf n = some .local := by
              cases e : q.at_ with
              | none => unfold ClAt at ha; rw [e] at ha; exact ha.elim
              | some i => unfold ClAt at ha; rw [e] at ha; exact ⟨i, rfl, ha⟩
            have wy := yes rfl a na I1.len
            unfold Cl.ends Cl.st at wy
            rw [hat] at wy
            have hLoc : Loc X.env.scope n := .inl hlo
            refine codeAny_handlers_suite_as ?_
            refine HandSPX.lands_againZ f3 fun g4 f4 u4 => ?_
            have I4 : Inv X pins τ G1 { z0 with heap := g4 } := I1.landed nb f4.1 ((up0.trans u3).trans u4) os ag
            obtain ⟨o4, vs4, ho4, hz4, hd4⟩ := f4.there
            refine store_ok (X := X.suite a ((a, o4) :: (X.pn ++ pins))) (v := .ref a) (I4.suite ho4 hd4 na outL outS) hN hix hLoc rfl (fun z5 I5 => ?_) (.inr hlo)
            refine wpAny_mono ((hb a o4 k d (X.pn ++ pins) hz4 ⟨_, hd4⟩).run [] z5 _ G1 _ I5 wy) (fun fl z6 hz6 => ?_) (fun _ _ z => False.elim z)
            have gone : ∀ {τ6 : L2.St} {G6 : Hp} {Q : Shared → Prop}, Inv (X.suite a ((a, o4) :: (X.pn ++ pins))) [] τ6 G6 z6 → (∀ z7, Inv X pins (τ6.set i none) G6 z7 → Q z7) → wpAny (model X.prog X.w) X.A (do bindName X.env n .none; unbindBehindTheSuite X.env n p2) (fun _ z7 => Q z7) X.xe z6 := fun {τ6 G6 Q} I6 hq => gone_ok (I6.unsuite okI) hN hix hlo hq
            cases fl with
            | next =>
              obtain ⟨τ6, G6, I6, q6⟩ := hz6
              exact gone I6 fun z7 I7 => ⟨_, _, I7, q6⟩
            | brk =>
              obtain ⟨τ6, G6, I6, q6⟩ := hz6
              exact gone I6 fun z7 I7 => ⟨_, _, I7, q6⟩
            | cont =>
              obtain ⟨τ6, G6, I6, q6⟩ := hz6
              exact gone I6 fun z7 I7 => ⟨_, _, I7, q6⟩
            | ret u =>
              obtain ⟨v6, τ6, G6, I6, r6, q6⟩ := hz6
              exact gone I6 fun z7 I7 => ⟨v6, _, _, I7, r6, q6⟩
    exact walk hcl wi
end
/-! ### what a clause caught, as a thing of the view -/
theorem XRep.mono {K : Fr} {mg : Str → Option Value} {D D' : Hp} {e : Ex} {c : Value} {d : Option Addr} (le : Le D D') (h : XRep K mg D e c d) : XRep K mg D' e c d := by
  obtain ⟨C, h1, h2, h3⟩ := h
  refine ⟨C, h1, h2, ?_⟩
  cases hf : e.fs with
  | nil => rw [hf] at h3; exact h3
  | cons f fs =>
    rw [hf] at h3
    obtain ⟨dx, vs, q1, q2, q3⟩ := h3
    refine ⟨dx, vs, q1, le _ _ q2, ?_⟩
    have go : ∀ {xs : List (Str × XF)} {ys : List (Str × L2.V)}, Paired (fun (p : Str × XF) (q : Str × L2.V) => p.1 = q.1 ∧ XFrep K D p.2 q.2) xs ys → Paired (fun (p : Str × XF) (q : Str × L2.V) => p.1 = q.1 ∧ XFrep K D' p.2 q.2) xs ys := by
      intro xs ys hp
      induction hp with
      | nil => exact .nil
      | cons r _ ih =>
        exact .cons ⟨r.1, XFrep.mono le r.2⟩ ih
    exact go q3
def exD (mg : Str → Option Value) (a : Addr) (c : Value) (d : Option Addr) : Dt Ex := ⟨fun K D e v => v = .ref a ∧ XRep K mg D e c d, fun le h => ⟨h.1, h.2.mono le⟩⟩
def goH {θ : Type} : List (List (Str × Bool) × (Ex → M θ)) → Ex → M θ
  | [], e => exc e
  | (tbl, rs) :: cs, e => match tbl.lookup e.cls with
    | some true => noX (rs e)
    | some false => goH cs e
    | none => none
def tryH {θ : Type} (cs : List (List (Str × Bool) × (Ex → M θ))) (rb : M θ) : M θ := match rb with
  | none => none
  | some (.ok a) => ok a
  | some (.ex e) => goH cs e
theorem tryH_exc {θ : Type} (cs : List (List (Str × Bool) × (Ex → M θ))) (e : Ex) : tryH cs (exc e : M θ) = goH cs e := rfl
/-- no entry of a slot -/
def FreeAt {ρ : Type} (i : Nat) : Dest ρ → Prop
  | .nx Γ => rmv i Γ = Γ
  | .bk Γ => rmv i Γ = Γ
  | .ct Γ => rmv i Γ = Γ
  | .rt _ => True
abbrev noW : WX := fun _ _ _ _ => False
section
variable {X : Cx} {G : Ctx} {Γ : Vw} {pos : Pos} {θ ρ : Type} {R : Rp ρ} {Z : θ → Dest ρ}
theorem dPost.drop {K : Fr} {H0 D0 : Hp} {D : Ends} {i : Nat} {z : Dest ρ} (hz : FreeAt i z) (h : dPost K H0 D0 R D z) :
    dPost K H0 D0 R { nx := fun σ H => D.nx (σ.set i none) H, rt := D.rt, bk := fun σ H => D.bk (σ.set i none) H, ct := fun σ H => D.ct (σ.set i none) H } z := by
  have go : ∀ {Γ : Vw} {σ : L2.St} {H' D' : Hp} {os : List Addr}, rmv i Γ = Γ → Rel K H0 D0 Γ σ H' D' os → Rel K H0 D0 Γ (σ.set i none) H' D' os := fun {Γ σ H' D' os} e r => ⟨r.ext, r.own, r.nd, by
    have := r.hold
    rw [← e] at this ⊢
    exact this.set⟩
  cases z with
  | nx Γ => exact fun σ' H' D' os' r => h _ H' D' os' (go hz r)
  | bk Γ => exact fun σ' H' D' os' r => h _ H' D' os' (go hz r)
  | ct Γ => exact fun σ' H' D' os' r => h _ H' D' os' (go hz r)
  | rt a => exact h
/-- the clauses, each with its table and what its suite tells -/
inductive HdT (X : Cx) (k : Nat) (V : Vw) (R : Rp ρ) (Z : θ → Dest ρ) : List ExceptHandler → List (List (Str × Bool) × (Ex → M θ)) → List Cl → Prop
  | nil : HdT X k V R Z [] [] []
  | plain {x : Str} {tbl : List (Str × Bool)} {rs : Ex → M θ} {b0 : Stmt} {bs : List Stmt} {p1 p2 : Pos} {hs cs l} (F : XSub X.K X.mg x tbl) (hg : Gl X x) (hd : (x == ("__debug__" : Str)) = false)
      (hb : ∀ (e : Ex) (a : Addr) (pn : List (Addr × Obj)), JB (X.suite a pn) ⟨noW, [], k, false⟩ V (b0 :: bs) R Z (rs e)) (r : HdT X k V R Z hs cs l) :
      HdT X k V R Z (.ExceptHandler (some (.Name x p1)) none (b0 :: bs) p2 :: hs) ((tbl, rs) :: cs) (⟨(X.mg x).getD .none, none, fun _ _ _ E σ H => ∃ e, tJ X.K X.mg ⟨noW, [], k, false⟩ V R Z (rs e) E σ H⟩ :: l)
  | named (i : Nat) {x n : Str} {tbl : List (Str × Bool)} {rs : Ex → M θ} {b0 : Stmt} {bs : List Stmt} {p1 p2 : Pos} {hs cs l} (F : XSub X.K X.mg x tbl) (hg : Gl X x) (hd : (x == ("__debug__" : Str)) = false)
      (hi : X.N[i]? = some n) (hl : X.env.kindOf n = some .local) (hz : ∀ t, FreeAt i (Z t))
      (hb : ∀ (e : Ex) (a : Addr) (o : Obj) (c : Value) (d : Option Addr) (pn : List (Addr × Obj)), Zc c d o → (∃ vs, o.data = .fields vs) → JB (X.suite a ((a, o) :: pn)) ⟨noW, [], k, false⟩ (put (eD i (exD X.mg a c d) e) V) (b0 :: bs) R Z (rs e)) (r : HdT X k V R Z hs cs l) :
      HdT X k V R Z (.ExceptHandler (some (.Name x p1)) (some n) (b0 :: bs) p2 :: hs) ((tbl, rs) :: cs) (⟨(X.mg x).getD .none, some i, fun a c d E σ H => ∃ e, tJ X.K X.mg ⟨noW, [], k, false⟩ (put (eD i (exD X.mg a c d) e) V) R Z (rs e) E σ H⟩ :: l)
theorem HdT.cls {k : Nat} {V : Vw} {hs cs l} (h : HdT X k V R Z hs cs l) (w : Wf X G) : Cls' X hs l := by
  have wS : ∀ (a : Addr) (pn : List (Addr × Obj)), Wf (X.suite a pn) ⟨noW, [], k, false⟩ := fun a pn => ⟨takes0, w.nd, (fun z => nomatch z), (fun z => nomatch z), w.hu, PassesOwn.never⟩
  induction h with
  | nil => exact .nil
  | plain F hg hd hb r ih =>
    obtain ⟨C, hm, _⟩ := F.ex
    refine .cons ⟨hg, hd, .inl (by rw [hm]; rfl)⟩ trivial (fun a o c d pn _ _ => ?_) ih
    exact ⟨fun pins s σ H E I ⟨e, he⟩ => (hb e a _ (wS a _)).run pins s σ H E I he⟩
  | named i F hg hd hi hl hz hb r ih =>
    obtain ⟨C, hm, _⟩ := F.ex
    refine .cons ⟨hg, hd, .inl (by rw [hm]; rfl)⟩ ⟨hi, hl⟩ (fun a o c d pn h1 h2 => ?_) ih
    exact ⟨fun pins s σ H E I ⟨e, he⟩ => (hb e a o c d pn h1 h2 (wS a _)).run pins s σ H E I he⟩
theorem HdT.wish {k : Nat} {V : Vw} {hs cs l} (h : HdT X k V R Z hs cs l) {iv : List Nat} (hv : pick iv V = G.Vx) {E : Ends} {H0 D0 : Hp} {e : Ex} {y : Rs θ} (hy : goH cs e = some y) (hp : jPost X.K X.mg G H0 D0 R Z E y) {c : Value} {d : Option Addr} {σ : L2.St} {H D : Hp} {os : List Addr}
    (hr : Rel X.K H0 D0 V σ H D os) (hx : XRep X.K X.mg D e c d) : wishes X.K X.N.length G.W E l c d σ H := by
  have hx' := hx
  obtain ⟨Cn, hn, rfl, _⟩ := hx'
  induction h with
  | nil =>
    cases hy
    obtain ⟨os2, q2⟩ := hr.pick iv
    rw [hv] at q2
    exact hp _ d σ H D os2 q2 hx
  | @plain x tbl rs b0 bs p1 p2 hs cs l F hg hd hb r ih =>
    obtain ⟨C, hm, hsub⟩ := F.ex
    have hy' : (match tbl.lookup e.cls with | some true => noX (rs e) | some false => goH cs e | none => none) = some y := hy
    cases hl : tbl.lookup e.cls with
    | none => rw [hl] at hy'; cases hy'
    | some b =>
      rw [hl] at hy'
      refine ⟨b, by rw [hm]; exact hsub _ _ hl _ hn, fun hb' a _ _ => ?_, fun hb' => ?_⟩
      · subst hb'
        obtain ⟨t, ht, rfl⟩ := noX_some hy'
        exact ⟨e, H0, D0, D, os, hr, _, ht, hp⟩
      · subst hb'
        exact ih hy'
  | @named i x n tbl rs b0 bs p1 p2 hs cs l F hg hd hi hl' hz hb r ih =>
    obtain ⟨C, hm, hsub⟩ := F.ex
    have hy' : (match tbl.lookup e.cls with | some true => noX (rs e) | some false => goH cs e | none => none) = some y := hy
    cases hl : tbl.lookup e.cls with
    | none => rw [hl] at hy'; cases hy'
    | some b =>
      rw [hl] at hy'
      refine ⟨b, by rw [hm]; exact hsub _ _ hl _ hn, fun hb' a _ hlen => ?_, fun hb' => ?_⟩
      · subst hb'
        obtain ⟨t, ht, rfl⟩ := noX_some hy'
        have hil : i < σ.length := by rw [hlen]; exact (List.getElem?_eq_some_iff.mp hi).1
        obtain ⟨os2, q2⟩ := hr.put (R := dat (exD X.mg a (.ref Cn) d)) (st := dat_st _) (a := e) (v := .ref a) (fp := []) (Hb := H) hil hr.ext.h (fun p hp => (hr.own p hp).2.2) ⟨rfl, rfl, hx⟩ .nil
        exact ⟨e, H0, D0, D, os2, q2, _, ht, (hp.ok rfl).drop (hz t)⟩
      · subst hb'
        exact ih hy'
theorem S_tryH {body : List Stmt} {hd0 : ExceptHandler} {hds : List ExceptHandler} {cs : List (List (Str × Bool) × (Ex → M θ))} {l : List Cl} {rb : M θ} (is iv : List Nat)
    (hb : ∀ (W : WX) (pn : List (Addr × Obj)) (xe : Value → Shared → Prop), JB (X.tr pn xe) ⟨W, pick is Γ, G.k, G.c⟩ Γ body R Z rb)
    (hh : HdT X G.k (pick is Γ) R Z (hd0 :: hds) cs l)
    (hv : pick iv (pick is Γ) = G.Vx := by rfl) (hst : X.stack = X.env :: X.outer := by rfl) (hf : X.env.frame = some X.env.locals := by rfl) :
    JS X G Γ (.Try body (hd0 :: hds) [] [] pos) R Z (tryH cs rb) := fun w => by
  refine (ps_clauses (tb := fun W => tJ X.K X.mg ⟨W, pick is Γ, G.k, G.c⟩ Γ R Z rb) w.nd hst hf w.tk (fun W pn xe tk po => hb W pn xe ⟨tk, w.nd, w.room, w.calm, w.hu, po⟩) (hh.cls w)).weak fun E σ H ⟨H0, D0, D, os, hr, y, hx, hp⟩ => ?_
  cases rb with
  | none => cases hx
  | some rb =>
    cases rb with
    | ok t =>
      cases hx
      exact ⟨H0, D0, D, os, hr, _, rfl, hp⟩
    | ex e => exact ⟨H0, D0, D, os, hr, _, rfl, fun c d σ' H' D' os' r q => hh.wish hv hx hp r q⟩
end
end T
set_option maxRecDepth 100000
set_option maxHeartbeats 4000000
namespace T
open PySem PySem.Spec PyProof.Rows L2
/-! ### isinstance of what a clause caught -/
structure XIsi (K : Fr) (mg : Str → Option Value) (x : Str) (tbl : List (Str × Bool)) : Prop where
  ex : ∃ cv : Value, ((∃ C, mg x = some (.ref C) ∧ cv = .ref C) ∨ (mg x = none ∧ x ≠ "__name__" ∧ ∃ T, bootBuiltins x = some (.type T) ∧ cv = .type T)) ∧ ∀ n b, tbl.lookup n = some b → ∀ Cn, mg n = some (.ref Cn) → ExcC K Cn ∧ PySem.W.kitOne K (.ref Cn) cv = some b
section
variable {X : Cx} {G : Ctx} {Γ : Vw} {pos : Pos}
end
/-! ### what the written part says of them -/
section
variable {K : Fr} {mg : Str → Option Value} {h : Heap} {x n : Str} {C Cn : Addr} {cv : Value} {b : Bool}
def IsiRow (K : Fr) (mg : Str → Option Value) (cv : Value) (p : Str × Bool) : Prop := ∃ Cn, mg p.1 = some (.ref Cn) ∧ ExcC K Cn ∧ PySem.W.kitOne K (.ref Cn) cv = some p.2
theorem isi_row (X : K.In h) (G : h.Ns mainGlobals mg) (a : PySem.W.nsIn K mainGlobals n = some (some (.ref Cn))) (e : ExcC K Cn) (s : PySem.W.kitOne K (.ref Cn) cv = some b) : IsiRow K mg cv (n, b) := ⟨Cn, PySem.W.mg_of X G a, e, s⟩
theorem isi_all {tbl : List (Str × Bool)} (all : ∀ p ∈ tbl, IsiRow K mg cv p) : ∀ n b, tbl.lookup n = some b → ∀ Cn, mg n = some (.ref Cn) → ExcC K Cn ∧ PySem.W.kitOne K (.ref Cn) cv = some b := fun n b hl Cn hn => by
  obtain ⟨C', h1, h2, h3⟩ := all _ (look_mem hl)
  rw [show mg n = some (.ref C') from h1] at hn
  cases hn
  exact ⟨h2, h3⟩
theorem xisi_own (X : K.In h) (G : h.Ns mainGlobals mg) {tbl : List (Str × Bool)} (a : PySem.W.nsIn K mainGlobals x = some (some (.ref C))) (all : ∀ p ∈ tbl, IsiRow K mg (.ref C) p) : XIsi K mg x tbl := ⟨.ref C, .inl ⟨C, PySem.W.mg_of X G a, rfl⟩, isi_all all⟩
theorem xisi_blt {T0 : String} {tbl : List (Str × Bool)} (hm : mg x = none) (hne : x ≠ "__name__") (hb : bootBuiltins x = some (.type T0)) (all : ∀ p ∈ tbl, IsiRow K mg (.type T0) p) : XIsi K mg x tbl := ⟨.type T0, .inr ⟨hm, hne, T0, hb, rfl⟩, isi_all all⟩
end
end T
set_option maxRecDepth 100000
set_option maxHeartbeats 4000000
namespace T
open PySem PySem.Spec PyProof.Rows L2
/-! ### max of a list of whole numbers -/
section
variable {X : Cx} {G : Ctx} {Γ : Vw} {pos : Pos}
end
end T
set_option maxRecDepth 100000
set_option maxHeartbeats 4000000
namespace T
open PySem PySem.Spec PySem.Calls PyProof.Rows PySem.W
/-! ### the class of an exception, with or without a dict of its own -/
section
variable {prog : Program} {w : World} {A : Around} {E : Value → Shared → Prop} {s : Shared} {K : Frag} {x D : Addr} {ox : Obj} {od : Option Obj}
theorem found_any {C : Addr} {name : Str} {a g : Value} (hc : (clsIn K C).isSome = true) (ha : findIn K (.ref C) name = some (some a)) (hg : specialIn K a "__get__" = some (some g)) (ht : takesIn K a = some true) : findObj K C od name = some (.bind g a) := by
  obtain ⟨c0, h0⟩ := Option.isSome_iff_exists.mp hc
  unfold findObj
  rw [h0, Option.bind_some, ha, Option.bind_some]
  simp [ht, hg]
theorem class_any {Q : Option Value → Shared → Prop} (C : L2.ExcC K D) (X : K.In s.heap) (I : InstAt s.heap x ox D od) (hq : Q (some (.ref D)) { s with toks := s.toks + 1 }) : wpAny (model prog w) A (getAttr? (.ref x) "__class__") Q E s := by
  have found : findObj K D od "__class__" = some (.bind (.builtin "getset_descriptor.__get__") (.builtin "object.__class__")) := found_any (by obtain ⟨c0, h0, _⟩ := any_some C.hd; rw [h0]; rfl) C.ha C.hn C.ht
  obtain ⟨hp, gg, dd, tt, oo⟩ := s
  have ty0 := I.type (M := model prog w)
  have ga1 := looks_findIn (M := model prog w) X C.hg
  have gt2 := looks_findIn (M := model prog w) X C.hk
  have fd3 := looks_find (M := model prog w) X I found
  have sb : Looks (model prog w) hp (isInstance (.ref x) (.type "BaseException")) true := ty0.andThen (looks_subIn X C.hs)
  have z0 : (false && onTheHeap (Value.builtin "BaseException.__getattribute__")) = false := rfl
  have z2 : (Value.builtin "BaseException.__getattribute__" == Value.builtin "object.__getattribute__") = false := by decide +kernel
  have z1 : (onTheHeap (Value.ref D) && Value.builtin "BaseException.__getattribute__" == Value.builtin "object.__getattribute__") = false := by rw [z2]; rfl
  unfold getAttr? getAttrBy? getAttrBy
  refine wpAny_bind (wpAny_mkText (wpAny_bind (wpAny_attempt (wpAny_holding (wpAny_bind (ty0.at (wpAny_bind (ga1.at ?_))))))))
  show wpAny _ _ (if (onTheHeap (Value.ref D) && Value.builtin "BaseException.__getattribute__" == Value.builtin "object.__getattribute__") = true then _ else _) _ _ _
  rw [z1, if_neg Bool.false_ne_true]
  unfold getAttrByItsOwn hookBefore
  refine wpAny_bind ?_
  have onH : onTheHeap (Value.ref D) = true := rfl
  rw [if_pos onH]
  refine gt2.at (wpAny_bind (wpAny_attempt (wpAny_holding ?_)))
  unfold callGetattribute
  rw [z0, if_neg Bool.false_ne_true]
  unfold boundAndCalled
  rw [PySem.F.excAttr_ValueError.ga.bind (.ref x)]
  refine wpAny_bind (wpAny_pure ?_)
  show wpAny (model prog w) _ (call (.builtin "BaseException.__getattribute__") [.ref x, .str "__class__" tt]) _ _ _
  refine wpAny_call (codeAny_call_builtin PySem.F.excAttr_ValueError.ga.plain PySem.F.entry_bexc_ga ?_)
  refine @check_slot (model prog w) _ _ ⟨hp, gg, dd, tt + 1, oo⟩ "BaseException.__getattribute__" "BaseException" "__getattribute__" (.ref x) [.str "__class__" tt] [] _ (by decide +kernel) (by decide +kernel) sb (PySem.F.args_bexc_ga (.ref x) (.str "__class__" tt)) ?_
  unfold Builtin.«object.__getattribute__»
  refine wpAny_bind (wpAny_of_eq (a := ((Value.ref x : Value), [Value.str "__class__" tt])) (by first | rfl | (simp only [slotArgs]; rfl)) (wpAny_bind (wpAny_pure (wpAny_bind (ty0.at (wpAny_bind (fd3.at ?_)))))))
  show wpAny (model prog w) _ (holding [Value.builtin "object.__class__"] (call (.builtin "getset_descriptor.__get__") [.builtin "object.__class__", .ref x, .ref D]) >>= ret) _ _ _
  refine wpAny_bind (wpAny_holding (wpAny_call (class_get (s := ⟨hp, gg, dd, tt + 1, oo⟩) (ox := ox) (od := od) X I C.hm (wpAny_pure ?_))))
  show wpAny (model prog w) _ (handedOut (.ref D)) _ _ _
  rw [handedOut_of (v := .ref D) rfl]
  first
    | exact wpAny_pure (wpAny_pure hq)
    | exact wpAny_pure hq
    | exact wpAny_pure (wpAny_bind (wpAny_pure (wpAny_pure hq)))
theorem kitx_any (C : L2.ExcC K D) : KitX K (.ref x) (.ref D) (fun h => InstAt h x ox D od) where
  ty := fun _ _ _ J => J.type
  it := fun _ _ X _ => by
    obtain ⟨c0, h0, _⟩ := any_some C.hd
    unfold clsIn at h0
    split at h0
    · rename_i q1 q2 q3 q4 ho
      intro A1 Q1 E1 s1 kp qq
      unfold isType loadHead
      exact wpAny_bind (wpAny_loadPart (kp _ _ (X _ _ ho)) (wpAny_pure qq))
    · cases h0
  ne := fun h tp dd its n sl X htp => by
    obtain ⟨c0, h0, _⟩ := any_some C.hd
    refine Bool.eq_false_iff.mpr fun qq => ?_
    have same : D = tp := Value.ref.inj (beq_iff_eq.mp qq)
    subst same
    unfold clsIn at h0
    split at h0
    · rename_i q1 q2 q3 q4 ho
      have zz := (X _ _ ho).symm.trans htp
      cases zz
    · cases h0
  ca := fun X J kk => class_any C X J kk
end
open L2 in
/-- isinstance(e, c) of what the suite holds, with a dict or without -/
theorem call_isAny {X : Cx} {a D : Addr} {o : Obj} {d : Option Addr} {pn : List (Addr × Obj)} (C : ExcC X.K D) (hz : Zc (.ref D) d o) (hf : ∃ vs, o.data = .fields vs) :
    CallR (X.suite a ((a, o) :: pn)) (.builtin "isinstance") (fun xs H Q => ∃ (c : V) (cv : Value) (b : Bool), xs = [.ref a, c] ∧ (d = none ∨ ∃ dd fs, d = some dd ∧ H dd = some (.xd fs)) ∧ (∀ u, RelV c u → u = cv) ∧ kitOne X.K (.ref D) cv = some b ∧ Q (.bl b) H) := by
  intro pins s σ H xs us Q I r h
  obtain ⟨c, cv, b, rfl, hdd, hcv, hk, q⟩ := h
  obtain ⟨u1, u2, rfl, r1, r2⟩ := vals2 r
  obtain rfl : u1 = Value.ref a := r1
  obtain rfl := hcv _ r2
  obtain ⟨at0, _⟩ := I.pin (a, o) (List.mem_append_left _ List.mem_cons_self)
  obtain ⟨vs, hv⟩ := hf
  have notC : notCls o = true := by unfold notCls; rw [hv] <;> rfl
  rcases hdd with rfl | ⟨dd, fs, rfl, hx⟩
  · have J : InstAt s.heap a o D none := ⟨at0, hz.1, notC, by rw [hz.2]; trivial⟩
    exact kia_one (kitx_any C) I.kIn J hk (fun z => nomatch z) fun tk => ⟨.bl b, H, I.kept (t' := tk) fun _ _ z => z, rfl, q⟩
  · have hob : ObjOk X.prog X.w H s.heap dd (.xd fs) := I.hok dd _ hx
    obtain ⟨mA, hns, hr⟩ := hob
    obtain ⟨od, ho, hl⟩ := lookIn_ns hns
    have J : InstAt s.heap a o D (some od) := ⟨at0, hz.1, notC, by rw [hz.2]; exact ho⟩
    exact kia_one (kitx_any C) I.kIn J hk (fun z => nomatch z) fun tk => ⟨.bl b, H, I.kept (t' := tk) fun _ _ z => z, rfl, q⟩
def exIsF (tbl : List (Str × Bool)) (e : Ex) : M Bool := match tbl.lookup e.cls with
  | some b => ok b
  | none => none
open L2 in
theorem E_isiF {X : Cx} {G : Ctx} {Γ : Vw} {pos : Pos} (i : Nat) {a : Addr} {o : Obj} {c : Value} {d : Option Addr} {pn : List (Addr × Obj)} {x y : Str} {e : Ex} {tbl : List (Str × Bool)} {p p1 p2 : Pos} (F : XIsi X.K X.mg x tbl) (hm : X.mg "isinstance" = none) (hz : Zc c d o) (hf : ∃ vs, o.data = .fields vs)
    (hfind : T.find i Γ = some (eD i (exD X.mg a c d) e) := by rfl) (hN : X.N[i]? = some y := by rfl) (hv : Vis X.env.scope y := by first | exact Or.inl rfl | exact Or.inr (Or.inl rfl) | exact Or.inr (Or.inr rfl))
    (hd : (y == ("__debug__" : Str)) = false := by decide) (hcd : (y == ("__classdict__" : Str)) = false := by decide) (hg : Gl X "isinstance" := by rfl) (hgx : Gl X x := by rfl) (hdx : (x == ("__debug__" : Str)) = false := by decide)
    (hs : starEach [.Name y p1, .Name x p2] X.env = (false, eval (.Name y p1) X.env) :: starEach [.Name x p2] X.env := by rfl) (hs2 : starEach [.Name x p2] X.env = (false, eval (.Name x p2) X.env) :: starEach [] X.env := by rfl) (hpl : (backTo pos (starEach [.Name x p2] X.env)).any (·.1) = false := by rfl) :
    ET (X.suite a ((a, o) :: pn)) G Γ (.Call (.Name "isinstance" p) [.Name y p1, .Name x p2] [] pos) (dat tBool) (exIsF tbl e) := fun w =>
  ⟨fun pins s σ H Q I ⟨H0, D0, D, os, hr, r, hx, hp⟩ => by
    obtain ⟨fp, os', v, q1, ⟨q2, q3, q4⟩, _, _, _⟩ := hr.hold.find hfind hr.nd
    unfold exIsF at hx
    cases hl : tbl.lookup e.cls with
    | none => rw [hl] at hx; cases hx
    | some b =>
      rw [hl] at hx
      cases hx
      obtain ⟨Cn, hn, rfl, hdn⟩ := q4
      have hdd : d = none ∨ ∃ dd fs, d = some dd ∧ H dd = some (.xd fs) := by
        cases hfs : e.fs with
        | nil => rw [hfs] at hdn; exact .inl hdn
        | cons f fs =>
          rw [hfs] at hdn
          obtain ⟨dx, vs, e1, e2, _⟩ := hdn
          exact .inr ⟨dx, vs, e1, hr.le _ _ e2⟩
      cases q3
      obtain ⟨cv, hc, hall⟩ := F.ex
      obtain ⟨eC, ek⟩ := hall _ _ hl _ hn
      rcases hc with ⟨C, hmx, rfl⟩ | ⟨hmx, hne, T0, hb, rfl⟩
      · exact (pe_callB (X := X.suite a ((a, o) :: pn)) (call_isAny eC hz hf) hg hm (by rfl) (pa_cons (pe_var hN hv hd hcd) (pa_cons (pe_glob (v := .ref C) hgx hmx rfl hdx) pa_nil hs2) hs) (by decide) (by decide) hs hpl).run pins s σ H Q I
          ⟨.ref a, q1, .ref C, .ref C, b, rfl, hdd, fun u hu => hu, ek, hp (.bl b) H D [] (Ext.refl hr.le) ⟨rfl, rfl⟩ .nil⟩
      · exact (pe_callB (X := X.suite a ((a, o) :: pn)) (call_isAny eC hz hf) hg hm (by rfl) (pa_cons (pe_var hN hv hd hcd) (pa_cons (pe_bltn (v := .ty T0) hgx hmx hb rfl hne hdx) pa_nil hs2) hs) (by decide) (by decide) hs hpl).run pins s σ H Q I
          ⟨.ref a, q1, .ty T0, .type T0, b, rfl, hdd, fun u hu => hu, ek, hp (.bl b) H D [] (Ext.refl hr.le) ⟨rfl, rfl⟩ .nil⟩⟩
/-! ### a field of what the suite holds -/
section
variable {K : Fr} {mg : Str → Option Value} {h : Heap} {n m : Str} {Cn : Addr} {b : Bool}
end
end T
set_option maxRecDepth 100000
set_option maxHeartbeats 4000000
namespace T
open PySem PySem.Spec PyProof.Rows L2
/-! ### lists that a def changes for its caller -/
section
variable {X : Cx} {G : Ctx} {Γ : Vw} {α β γ δ τ ρ θ C : Type} {a b c e tg : Expr} {pos : Pos} {es : List Expr} {R : Rp ρ} {Z : θ → Dest ρ} {RL : Rp (List α)} {sL : Stable RL} {A : Dt α}
/-! ### defs that change the list of their first argument, and fall off their end -/
end
end T
set_option maxRecDepth 100000
set_option maxHeartbeats 4000000
namespace T
open PySem PySem.Spec PyProof.Rows L2 PySem.W
/-! ### isinstance(e, (A, B, ..)) of what a clause caught -/
/-! ### short lists of unlike places, compared -/
section
variable {α β γ : Type} [DecidableEq α] [DecidableEq β] [DecidableEq γ] {A : Dt α} {B : Dt β} {C : Dt γ}
end
end T
namespace T
open PySem PySem.Spec PyProof.Rows L2
/-! ### clauses, met or not -/
theorem goH_hit {θ : Type} {tbl : List (Str × Bool)} {f : Ex → M θ} {cs : List (List (Str × Bool) × (Ex → M θ))} {e : Ex} {a : θ} (h : tbl.lookup e.cls = some true) (hf : f e = ok a) : goH ((tbl, f) :: cs) e = ok a := by
  unfold goH
  rw [h]
  show noX (f e) = _
  rw [hf]
  rfl
end T
set_option maxRecDepth 100000
set_option maxHeartbeats 4000000
namespace T
open PySem PySem.Spec PyProof.Rows L2
/-! ### <, <=, >, >= of data of one kind -/
section
variable {α β γ : Type} [DecidableEq α] [DecidableEq β] [DecidableEq γ] {A : Dt α} {B : Dt β} {C : Dt γ}
end
section
variable {X : Cx} {G : Ctx} {Γ : Vw} {α : Type} [DecidableEq α] {a b : Expr} {pos : Pos}
variable {A : Dt α} {R R' : Rp α} {ra rb : M α}
end
/-! ### a list of one's own, lent to what keeps nothing of it -/
section
variable {X : Cx} {G : Ctx} {Γ : Vw} {α β : Type} {e : Expr}
end
end T
set_option maxRecDepth 100000
set_option maxHeartbeats 4000000
/-! enumerate of a tuple -/
namespace EB
open PySem PySem.Spec PyProof.Rows L2
section
variable {prog : Program} {w : World} {A : Around} {E : Value → Shared → Prop} {s : Shared}
end
end EB
namespace T
open PySem PySem.Spec PyProof.Rows L2
section
variable {X : Cx} {G : Ctx} {Γ : Vw} {α : Type} {a : Expr} {pos : Pos}
end
end T
set_option maxRecDepth 100000
set_option maxHeartbeats 4000000
/-! any of whole numbers -/
namespace EB
open PySem PySem.Spec PyProof.Rows L2
section
variable {X : Cx}
end
end EB
namespace T
open PySem PySem.Spec PyProof.Rows L2
section
variable {X : Cx} {G : Ctx} {Γ : Vw} {a : Expr} {pos : Pos}
end
end T
set_option maxRecDepth 100000
set_option maxHeartbeats 4000000
/-! a tuple, any times -/
namespace EB
open PySem PySem.Spec PyProof.Rows L2
section
variable {X : Cx}
end
end EB
namespace T
open PySem PySem.Spec PyProof.Rows L2
section
variable {X : Cx} {G : Ctx} {Γ : Vw} {α : Type} {a b : Expr} {pos : Pos}
end
end T
set_option maxRecDepth 100000
set_option maxHeartbeats 4000000
/-! a list of one's own: insert, extend -/
namespace T
open PySem PySem.Spec PyProof.Rows L2
section
variable {X : Cx} {G : Ctx} {Γ : Vw} {α β γ δ τ ρ θ C C' : Type} {a b c e j it tg : Expr} {pos : Pos} {st : Stmt} {rest B : List Stmt} {R : Rp ρ} {Z : θ → Dest ρ}
def pins {α : Type} (xs : List α) (i : Int) (x : α) : M (List α) := grd (xs.length < sizeLine ∧ 0 ≤ i ∧ i < 2 ^ 63) (ok (xs.take i.toNat ++ [x] ++ xs.drop i.toNat))
end
end T
set_option maxRecDepth 100000
set_option maxHeartbeats 4000000
/-! range(i, j), whatever the ends -/
namespace RB
open PySem PySem.Spec PyProof.Rows L2
section
variable {X : Cx} {tg : Expr}
end
end RB
namespace T
open PySem PySem.Spec PyProof.Rows L2
section
variable {X : Cx} {G : Ctx} {Γ : Vw} {α β γ δ τ ρ θ C C' : Type} {a b c e it tg : Expr} {pos : Pos} {st : Stmt} {rest B : List Stmt} {R : Rp ρ} {Z : θ → Dest ρ}
end
end T
set_option maxRecDepth 100000
set_option maxHeartbeats 4000000
/-! xs.extend(a tuple) -/
namespace EX
open PySem PySem.Spec PyProof.Rows L2
section
variable {X : Cx}
end
end EX
namespace T
open PySem PySem.Spec PyProof.Rows L2
section
variable {X : Cx} {G : Ctx} {Γ : Vw} {α β γ δ τ ρ θ C C' : Type} {a b c e j it tg : Expr} {pos : Pos} {st : Stmt} {rest B : List Stmt} {R : Rp ρ} {Z : θ → Dest ρ}
end
end T
set_option maxRecDepth 100000
set_option maxHeartbeats 4000000
/-! a list of one's own, lent to what gives rows back -/
namespace T
open PySem PySem.Spec PyProof.Rows L2
section
variable {X : Cx} {G : Ctx} {Γ : Vw} {α β : Type} {e : Expr}
end
end T
set_option maxRecDepth 100000
set_option maxHeartbeats 4000000
/-! while, with a return within -/
namespace T
open PySem PySem.Spec PyProof.Rows L2
section
variable {X : Cx} {G : Ctx} {Γ : Vw} {α β γ δ τ ρ θ C C' : Type} {a b c e j it tg : Expr} {pos : Pos} {st : Stmt} {rest B : List Stmt} {R : Rp ρ} {Z : θ → Dest ρ}
end
end T
set_option maxRecDepth 100000
set_option maxHeartbeats 4000000
/-! sorted, of any alike tuples -/
namespace SD
open PySem PySem.Spec PyProof.Rows L2
open PySem.W (EachIs AllAlike Sortable dataLe)
end SD
namespace T
open PySem PySem.Spec PyProof.Rows L2
open PySem.W (AllAlike Sortable dataLe)
section
variable {X : Cx} {G : Ctx} {Γ : Vw} {α : Type} [DecidableEq α] {a : Expr} {pos : Pos}
end
end T
set_option maxRecDepth 100000
set_option maxHeartbeats 4000000
/-! a list of one's own that is never read again: what is put into it may be of any kind -/
namespace T
open PySem PySem.Spec PyProof.Rows L2
section
variable {X : Cx} {G : Ctx} {Γ : Vw} {α β γ δ τ ρ θ C C' : Type} {a b c e j it tg : Expr} {pos : Pos} {st : Stmt} {rest B : List Stmt} {R : Rp ρ} {Z : θ → Dest ρ}
end
end T
set_option maxRecDepth 100000
set_option maxHeartbeats 4000000
namespace T
open PySem PySem.Spec PyProof.Rows L2
/-! ### min of a list of whole numbers -/
section
variable {X : Cx} {G : Ctx} {Γ : Vw} {pos : Pos}
end
section
variable {X : Cx} {G : Ctx} {Γ : Vw} {α : Type} [DecidableEq α] {a : Expr} {pos : Pos}
open PySem.W (AllAlike Sortable dataLe)
end
end T
set_option maxRecDepth 100000
set_option maxHeartbeats 4000000
namespace T
open PySem PySem.Spec PyProof.Rows L2
/-! ### words joined -/
section
variable {X : Cx} {G : Ctx} {Γ : Vw} {a : Expr} {pos : Pos}
end
end T
set_option maxRecDepth 100000
set_option maxHeartbeats 4000000
namespace T
open PySem PySem.Spec PyProof.Rows L2
/-! ### a list of one's own, lent to a walk -/
section
variable {X : Cx} {G : Ctx} {Γ : Vw} {α ρ C : Type} {a : Expr} {s : Stmt} {R : Rp ρ}
end
end T
set_option maxRecDepth 100000
set_option maxHeartbeats 4000000
namespace T
open PySem PySem.Spec PyProof.Rows L2
/-! ### one of two kinds -/
section
variable {X : Cx} {G : Ctx} {Γ : Vw} {α β : Type} {a : Expr} {A : Dt α} {B : Dt β}
end
section
variable {α β : Type} [DecidableEq α] [DecidableEq β] {A : Dt α} {B : Dt β}
end
end T
set_option maxRecDepth 100000
set_option maxHeartbeats 4000000
namespace T
open PySem PySem.Spec PyProof.Rows L2
/-! ### range(i, j, c), c from 1 on -/
section
variable {X : Cx} {G : Ctx} {Γ : Vw} {α β : Type} {a b tg : Expr} {pos : Pos}
end
end T
set_option maxRecDepth 100000
set_option maxHeartbeats 4000000
namespace T
open PySem PySem.Spec PyProof.Rows L2
/-! ### the first two places of a record of three -/
section
variable {X : Cx} {G : Ctx} {Γ : Vw} {α γ : Type} {a : Expr} {pos : Pos}
end
end T
set_option maxRecDepth 100000
set_option maxHeartbeats 4000000
/-! a list of three places of unlike types, filled place by place: its places are of a union while it is one's own, and it is read as a record when it is handed on -/
namespace T
open PySem PySem.Spec PyProof.Rows L2
section
variable {α β γ : Type} [DecidableEq α] [DecidableEq β] [DecidableEq γ] {A : Dt α} {B : Dt β} {C : Dt γ}
end
section
variable {α β γ : Type} {A : Dt α} {B : Dt β} {C : Dt γ}
variable {X : Cx} {G : Ctx} {Γ : Vw} {a : Expr}
end
end T
set_option maxRecDepth 100000
set_option maxHeartbeats 4000000
/-! membership with one instance for all kinds; a name of one kind that is read as one of two from here on -/
namespace T
open PySem PySem.Spec PyProof.Rows L2
section
variable {X : Cx} {G : Ctx} {Γ : Vw} {α β ρ θ : Type} {bl : List Stmt} {R : Rp ρ} {Z : θ → Dest ρ}
end
end T
set_option maxRecDepth 100000
set_option maxHeartbeats 4000000
/-! lists of one's own within lists and records of one's own -/
namespace T
open PySem PySem.Spec PyProof.Rows L2
/-- items, each with what it owns -/
inductive Ow {α : Type} (K : Fr) (H D : Hp) (R : Rp α) : List α → List L2.V → List Addr → Prop
  | nil : Ow K H D R [] [] []
  | cons {a : α} {v : L2.V} {fp : List Addr} {xs : List α} {vs : List L2.V} {fps : List Addr} (h : R.rep K H D fp a v) (t : Ow K H D R xs vs fps) : Ow K H D R (a :: xs) (v :: vs) (fp ++ fps)
theorem Ow.mono {α : Type} {K : Fr} {H H' D D' : Hp} {R : Rp α} (e : Le H H') (d : Le D D') : ∀ {xs : List α} {vs : List L2.V} {fps : List Addr}, Ow K H D R xs vs fps → Ow K H' D' R xs vs fps
  | _, _, _, .nil => .nil
  | _, _, _, .cons h t => .cons (R.mono e d h) (Ow.mono e d t)
theorem Ow.length {α : Type} {K : Fr} {H D : Hp} {R : Rp α} : ∀ {xs : List α} {vs : List L2.V} {fps : List Addr}, Ow K H D R xs vs fps → xs.length = vs.length
  | _, _, _, .nil => rfl
  | _, _, _, .cons h t => congrArg (· + 1) (Ow.length t)
/-! ### what is one's own, as data -/
section
variable {X : Cx} {G : Ctx} {Γ : Vw} {α β γ ρ θ C : Type} {a b c e : Expr} {pos : Pos} {R : Rp ρ} {Z : θ → Dest ρ} {B : List Stmt}
end
end T
set_option maxRecDepth 100000
set_option maxHeartbeats 4000000
/-! lists of lists of one's own, changed -/
namespace T
open PySem PySem.Spec PyProof.Rows L2
section
variable {X : Cx} {G : Ctx} {Γ : Vw} {α β γ ρ θ C : Type} {a b c e j k : Expr} {pos : Pos} {R : Rp ρ} {Z : θ → Dest ρ} {B : List Stmt}
end
end T
set_option maxRecDepth 100000
set_option maxHeartbeats 4000000
/-! comprehensions whose items are things of their own -/
namespace T
open PySem PySem.Spec PyProof.Rows L2
section
variable {X : Cx} {G : Ctx} {Γ : Vw} {α β γ δ τ ρ θ C C' : Type} {a b c e it tg elt : Expr} {pos : Pos} {st : Stmt} {rest B : List Stmt} {R : Rp ρ} {Z : θ → Dest ρ} {ifs : List Expr}
end
end T
set_option maxRecDepth 100000
set_option maxHeartbeats 4000000
/-! more of lists of lists of one's own: methods, records, lending over a statement -/
namespace T
open PySem PySem.Spec PyProof.Rows L2
section
variable {X : Cx} {G : Ctx} {Γ : Vw} {α β γ ρ θ C : Type} {a b c e j k : Expr} {pos : Pos} {R : Rp ρ} {Z : θ → Dest ρ} {B : List Stmt} {es : List Expr}
end
end T
set_option maxRecDepth 100000
set_option maxHeartbeats 4000000
namespace T
open PySem PySem.Spec PyProof.Rows L2
section
variable {X : Cx} {G : Ctx} {Γ : Vw} {α β γ ρ θ C : Type} {a b c e j k it tg elt : Expr} {pos : Pos} {R : Rp ρ} {Z : θ → Dest ρ} {B : List Stmt} {es ifs : List Expr}
end
end T
set_option maxRecDepth 100000
set_option maxHeartbeats 4000000
/-! two rows exchanged -/
namespace T
open PySem PySem.Spec PyProof.Rows L2
section
variable {X : Cx} {G : Ctx} {Γ : Vw} {α β γ ρ θ C : Type} {a b c e j k it tg elt : Expr} {pos : Pos} {R : Rp ρ} {Z : θ → Dest ρ} {B : List Stmt} {es ifs : List Expr}
end
end T
set_option maxRecDepth 100000
set_option maxHeartbeats 4000000
namespace T
open PySem PySem.Spec PyProof.Rows L2
section
variable {X : Cx} {G : Ctx} {Γ : Vw} {α β γ ρ θ C : Type} {a b c e j k it tg elt : Expr} {pos : Pos} {R : Rp ρ} {B : List Stmt} {es ifs : List Expr}
end
end T
set_option maxRecDepth 100000
set_option maxHeartbeats 4000000
namespace T
open PySem PySem.Spec PyProof.Rows L2
section
variable {X : Cx} {α β γ : Type}
variable {G : Ctx} {Γ : Vw} {θ ρ : Type} {B : List Stmt} {R : Rp ρ} {Z : θ → Dest ρ}
end
end T
set_option maxRecDepth 100000
set_option maxHeartbeats 4000000
namespace T
open PySem PySem.Spec PyProof.Rows L2
/-! ### texts -/
section
variable {X : Cx} {G : Ctx} {Γ : Vw} {a b it tg : Expr} {pos : Pos}
end
end T
set_option maxRecDepth 100000
set_option maxHeartbeats 4000000
/-! lists of two unlike things, one's own and changed -/
namespace T
open PySem PySem.Spec PyProof.Rows L2
section
variable {X : Cx} {G : Ctx} {Γ : Vw} {α β γ ρ θ C : Type} {a b c e j k : Expr} {pos : Pos} {R : Rp ρ} {Z : θ → Dest ρ} {es : List Expr}
end
end T
set_option maxRecDepth 100000
namespace T
open PySem PySem.Spec PyProof.Rows L2
/-! ### lists of four places of unlike types, that nobody changes -/
def tLr4 {α β γ δ : Type} (A : Dt α) (B : Dt β) (C : Dt γ) (D : Dt δ) : Dt (α × β × γ × δ) := ⟨fun K H x v => ∃ p v1 v2 v3 v4, v = .ref p ∧ H p = some (.lst [v1, v2, v3, v4]) ∧ A.rep K H x.1 v1 ∧ B.rep K H x.2.1 v2 ∧ C.rep K H x.2.2.1 v3 ∧ D.rep K H x.2.2.2 v4,
  fun e ⟨p, v1, v2, v3, v4, h1, h2, h3, h4, h5, h6⟩ => ⟨p, v1, v2, v3, v4, h1, e _ _ h2, A.mono e h3, B.mono e h4, C.mono e h5, D.mono e h6⟩⟩
section
variable {X : Cx} {G : Ctx} {Γ : Vw} {pos : Pos} {α β γ δ : Type}
end
end T
set_option maxRecDepth 100000
set_option maxHeartbeats 4000000
/-! lists of two unlike things of their own; loops that hand out what is theirs; break -/
namespace T
open PySem PySem.Spec PyProof.Rows L2
section
variable {X : Cx} {G : Ctx} {Γ : Vw} {α β γ ρ θ C : Type} {a b c e j k it tg : Expr} {pos : Pos} {R : Rp ρ} {Z : θ → Dest ρ} {es : List Expr} {B : List Stmt}
/-! ### break -/
end
end T
set_option maxRecDepth 100000
set_option maxHeartbeats 4000000
/-! list.index; loops over lists of one's own that hand their items out -/
namespace T
open PySem PySem.Spec PyProof.Rows L2
section
variable {α β : Type} [DecidableEq α] [DecidableEq β] {A : Dt α} {B : Dt β}
end
section
variable {X : Cx} {G : Ctx} {Γ : Vw} {α β γ ρ θ C : Type} {a b c e j k it tg : Expr} {pos : Pos} {R : Rp ρ} {Z : θ → Dest ρ} {es : List Expr} {B : List Stmt}
end
end T
set_option maxRecDepth 100000
set_option maxHeartbeats 4000000
/-! loops over a list of one's own whose things are handed out one by one -/
namespace T
open PySem PySem.Spec PyProof.Rows L2
section
variable {X : Cx} {G : Ctx} {Γ : Vw} {α β γ ρ θ C : Type} {a b c e j k it tg : Expr} {pos : Pos} {R : Rp ρ} {Z : θ → Dest ρ} {es : List Expr} {B : List Stmt}
end
end T
set_option maxRecDepth 100000
set_option maxHeartbeats 4000000
/-! what is one's own, lent to a loop with a return within, and had back afterwards -/
namespace T
open PySem PySem.Spec PyProof.Rows L2
section
variable {X : Cx} {G : Ctx} {Γ : Vw} {α β γ ρ θ C : Type} {a b c e j k it tg : Expr} {s : Stmt} {pos : Pos} {R : Rp ρ} {Z : θ → Dest ρ} {es : List Expr} {B : List Stmt}
end
end T
set_option maxRecDepth 100000
set_option maxHeartbeats 4000000
/-! whole numbers that an exception holds; what is an empty tuple or something else -/
namespace T
open PySem PySem.Spec PyProof.Rows L2
section
variable {X : Cx} {G : Ctx} {Γ : Vw} {α β : Type} {a : Expr}
end
end T
set_option maxRecDepth 100000
set_option maxHeartbeats 4000000
/-! set(a list of ints), sorted; list.count -/
namespace T
open PySem PySem.Spec PyProof.Rows L2
section
variable {P : Program} {w : World} {A : Around} {E : Value → Shared → Prop} {s : Shared}
set_option maxHeartbeats 6400000 in
theorem call_set_lstI {l : Addr} {items : Array Value} (ns : List Int) {Q : Value → Shared → Prop} (hh : A.handled = none) (hl : s.heap.IsList l items) (hit : IntsAre items.toList ns) (hb : ns.length + 1 < scanBound)
    (h : ∀ (h' : Heap) (tk c : Nat), SetR w h' s.heap.objs.size (fun j => decide (j ∈ ns)) c → c ≤ ns.length → (∀ b o, s.heap.get? b = some o → h'.get? b = some o) → Q (.ref s.heap.objs.size) { s with heap := h', toks := tk }) :
    wpAny (model P w) A (call (.type "set") [.ref l]) Q E s := by
  have hisz : items.size = ns.length := by
    have q := IntsAre.length hit
    rw [Array.length_toList] at q
    exact q
  obtain ⟨c, tl, hmro⟩ := F.called_set.mro
  have hmade := F.called_set.made
  have hsub := F.called_set.sub
  refine wpAny_call (codeAny_of_tree ?_)
  show wpAny _ _ (callAny (.type "set") _) _ _ _
  refine wpAny_pure ⟨Code.quiet_builtin _ (by decide +kernel), codeAny_builtin F.entry_type_call ?_⟩
  rw [Around.under_plain (weight_type_call_type "set" [.ref l] []) rfl]
  have h1 := F.called_set.notType
  have h2 := F.called_set.canCreate
  have hct := F.typeCall_set_1 (.ref l)
  repeat (any_goals (first | assumption | wp_step))
  refine codeAny_mono (code_set_led1 (.ref l) (E := E) (Q₁ := fun obj s₁ => obj = .ref s.heap.objs.size ∧ s₁ = { s with heap := s.heap.push { cls := .type "set", dict := none, data := .set #[] 0 (.fresh 0 0 (!w.params.followText "set-order")) } }) ⟨rfl, rfl⟩) fun r s₁ hr => ?_
  cases r with
  | error e => exact hr
  | ok fl =>
    cases fl with
    | ret obj =>
      obtain ⟨rfl, rfl⟩ := hr
      have hS : (s.heap.push { cls := .type "set", dict := none, data := .set #[] 0 (.fresh 0 0 (!w.params.followText "set-order")) }).get? s.heap.objs.size = some { cls := .type "set", dict := none, data := .set #[] 0 (.fresh 0 0 (!w.params.followText "set-order")) } := Heap.get?_push_size _ rfl
      have hT : Shared.TypeIs { s with heap := s.heap.push { cls := .type "set", dict := none, data := .set #[] 0 (.fresh 0 0 (!w.params.followText "set-order")) } } (.ref s.heap.objs.size) "set" := ⟨_, hS, rfl⟩
      have hli := F.called_set.init.lookup
      have hbi := F.called_set.init.bind (.ref s.heap.objs.size)
      repeat (any_goals (first | assumption | wp_step))
      refine codeAny_mono (codeAny_call_builtin (R := wants (fun r s₂ => r = .none ∧ ∃ h' tk c, s₂ = { s with heap := h', toks := tk } ∧ SetR w h' s.heap.objs.size (fun j => decide (j ∈ ns)) c ∧ c ≤ ns.length ∧
          (∀ b o, s.heap.get? b = some o → h'.get? b = some o)) E) F.called_set.init.plain F.entry_set_init (check_set_init_1 hT ?_)) fun r₂ s₂ hr₂ => ?_
      · obtain ⟨ol, hol, hcl, nl, hdl⟩ := hl
        obtain ⟨ocls, odict, odata, oslots⟩ := ol
        simp only at hcl hdl
        subst hcl; subst hdl
        have hol' : (s.heap.push { cls := .type "set", dict := none, data := .set #[] 0 (.fresh 0 0 (!w.params.followText "set-order")) }).get? l = some { cls := .type "list", dict := odict, data := .seq items nl, slots := oslots } := Heap.get?_push_of_some _ hol
        have hsls := PySem.F.sub_list_set
        have hslf := PySem.F.sub_list_frozenset
        have hne : (Value.type "list" == Value.type "dict") = false := by decide
        have hl1 : (s.heap.push { cls := .type "set", dict := none, data := .set #[] 0 (.fresh 0 0 (!w.params.followText "set-order")) }).IsList l items := ⟨_, hol', rfl, nl, rfl⟩
        unfold Builtin.«set.__init__» noKeywords Builtin.Frozenset.updateFrom
        generalize hPI : pyIter = PI
        wp_walk
        subst hPI
        refine wpAny_pyIter_list hl1 ?_
        refine wpAny_bind (wpAny_runValue ?_)
        have hlS : l < s.heap.objs.size := Heap.lt_size hol
        have hh3 : A.in1.in1.in1.handled = none := by simp [hh]
        have hz1 : (s.heap.push { cls := .type "set", dict := none, data := .set #[] 0 (.fresh 0 0 (!w.params.followText "set-order")) }).objs.size = s.heap.objs.size + 1 := Heap.size_push ..
        have hneI : l ≠ (s.heap.push { cls := .type "set", dict := none, data := .set #[] 0 (.fresh 0 0 (!w.params.followText "set-order")) }).objs.size := by
          rw [Heap.size_push]; exact Nat.ne_of_lt (Nat.lt_succ_of_lt hlS)
        have hSf : s.heap.objs.size ∉ [(s.heap.push { cls := .type "set", dict := none, data := .set #[] 0 (.fresh 0 0 (!w.params.followText "set-order")) }).objs.size, l] := by
          rw [Heap.size_push]; simp only [List.mem_cons, List.mem_singleton, List.not_mem_nil, or_false, not_or]
          exact ⟨Nat.ne_of_lt (Nat.lt_succ_self _), Nat.ne_of_gt hlS⟩
        have hval : ∀ (i : Nat) (v : Value), items[i]? = some v → ∃ k t, ns[i]? = some k ∧ v = .int k t := fun i v hv => by
          have hi : i < ns.length := by rw [← hisz]; exact (Array.getElem?_eq_some_iff.mp hv).1
          obtain ⟨t, e⟩ := PyProof.Rows.IntsAre.int_at hit i v (by rw [Array.getElem?_toList]; exact hv)
          refine ⟨ns[i], t, List.getElem?_eq_getElem hi, ?_⟩
          rw [e, List.getD_eq_getElem?_getD, List.getElem?_eq_getElem hi] <;> rfl
        refine set_update_ints ((Walks.list hh3 _ l hneI items).toS) s.heap.objs.size
          hSf ns hisz hb hval (items.size - 0) 0 _ (by omega) (Nat.zero_le _)
          ⟨⟨_, Heap.get?_push_size _ rfl, rfl, rfl⟩, (hl1.push _)⟩ ?hS0 ?hR
        case hS0 =>
          have hget : ((s.heap.push { cls := .type "set", dict := none, data := .set #[] 0 (.fresh 0 0 (!w.params.followText "set-order")) }).push { cls := .type "list_iterator", data := .fields #[.ref l, .int 0 0] }).get? s.heap.objs.size
              = some { cls := .type "set", dict := none, data := .set #[] 0 (.fresh 0 0 (!w.params.followText "set-order")) } := Heap.get?_push_of_some _ hS
          exact ⟨0, Nat.le_refl 0, setR_new_at hget⟩
        case hR =>
          intro s' c' hm hc' hS'
          obtain ⟨h', g2, d', tk', os'⟩ := s'
          have eg : g2 = s.gens := hm.gens
          have ed : d' = s.drawn := hm.drawn
          have eo : os' = s.os := hm.os
          subst eg; subst ed; subst eo
          show wpAny _ _ _ _ _ _
          refine wpAny_pure ?_
          show wpAny _ _ (ret Value.none) _ _ _
          rw [hisz] at hc'
          refine wpAny_pure ⟨rfl, h', tk', c', rfl, hS', hc', fun b o e => ?_⟩
          have hb0 : b < s.heap.objs.size := Heap.lt_size e
          have hb1 : b ≠ s.heap.objs.size := Nat.ne_of_lt hb0
          have hb2 : b ≠ (s.heap.push { cls := .type "set", dict := none, data := .set #[] 0 (.fresh 0 0 (!w.params.followText "set-order")) }).objs.size := by
            rw [Heap.size_push]; exact Nat.ne_of_lt (Nat.lt_succ_of_lt hb0)
          exact hm.heap b o (by simp only [List.mem_cons, List.mem_singleton, List.not_mem_nil, or_false, not_or]; exact ⟨hb1, hb2⟩) (Heap.get?_push_of_some _ (Heap.get?_push_of_some _ e))
      · cases r₂ with
        | error e => exact hr₂
        | ok fl₂ =>
          cases fl₂ with
          | ret r =>
            obtain ⟨rfl, h', tk, c', rfl, hS', hc', hk'⟩ := hr₂
            repeat (any_goals (first | assumption | wp_step))
            exact h _ _ _ hS' hc' hk'
          | _ => exact hr₂.elim
    | _ => exact hr.elim
end
/-! ### rising, none twice -/
def insU (x : Int) : List Int → List Int
  | [] => [x]
  | y :: l => if x < y then x :: y :: l else if x = y then y :: l else y :: insU x l
def upI : List Int → List Int
  | [] => []
  | x :: l => insU x (upI l)
theorem insU_mem {x k : Int} : ∀ {l : List Int}, k ∈ insU x l ↔ k = x ∨ k ∈ l
  | [] => by simp [insU]
  | y :: l => by
    unfold insU
    split
    · simp
    · split
      · next h => subst h; simp
      · rw [List.mem_cons, insU_mem, List.mem_cons]
        constructor
        · rintro (h | h | h)
          · exact .inr (.inl h)
          · exact .inl h
          · exact .inr (.inr h)
        · rintro (h | h | h)
          · exact .inr (.inl h)
          · exact .inl h
          · exact .inr (.inr h)
theorem insU_up {x : Int} : ∀ {l : List Int}, l.Pairwise (· < ·) → (insU x l).Pairwise (· < ·)
  | [], _ => List.pairwise_singleton _ _
  | y :: l, h => by
    obtain ⟨h1, h2⟩ := List.pairwise_cons.mp h
    unfold insU
    split
    · next c => exact List.pairwise_cons.mpr ⟨fun z hz => by
        rcases List.mem_cons.mp hz with e | hz
        · rw [e]; exact c
        · have := h1 z hz; omega, h⟩
    · split
      · exact h
      · refine List.pairwise_cons.mpr ⟨fun z hz => ?_, insU_up h2⟩
        rcases insU_mem.mp hz with e | hz
        · rw [e]; omega
        · exact h1 z hz
theorem upI_mem {k : Int} : ∀ {l : List Int}, k ∈ upI l ↔ k ∈ l
  | [] => Iff.rfl
  | x :: l => by
    show k ∈ insU x (upI l) ↔ _
    rw [insU_mem, upI_mem, List.mem_cons]
theorem upI_up : ∀ {l : List Int}, (upI l).Pairwise (· < ·)
  | [] => .nil
  | x :: l => insU_up upI_up
theorem up_uniq : ∀ {a b : List Int}, a.Pairwise (· < ·) → b.Pairwise (· < ·) → (∀ k, k ∈ a ↔ k ∈ b) → a = b
  | [], [], _, _, _ => rfl
  | [], y :: b, _, _, h => absurd ((h y).mpr List.mem_cons_self) (by simp)
  | x :: a, [], _, _, h => absurd ((h x).mp List.mem_cons_self) (by simp)
  | x :: a, y :: b, ha, hb, h => by
    obtain ⟨a1, a2⟩ := List.pairwise_cons.mp ha
    obtain ⟨b1, b2⟩ := List.pairwise_cons.mp hb
    have e : x = y := by
      rcases List.mem_cons.mp ((h x).mp List.mem_cons_self) with e | e
      · exact e
      · rcases List.mem_cons.mp ((h y).mpr List.mem_cons_self) with e2 | e2
        · exact e2.symm
        · have := b1 x e
          have := a1 y e2
          omega
    subst e
    rw [up_uniq a2 b2 fun k => ⟨fun z => by
      rcases List.mem_cons.mp ((h k).mp (List.mem_cons_of_mem _ z)) with e | e
      · have := a1 k z; omega
      · exact e, fun z => by
      rcases List.mem_cons.mp ((h k).mpr (List.mem_cons_of_mem _ z)) with e | e
      · have := b1 k z; omega
      · exact e⟩]
/-- sorted(set(l)) -/
def psortS (xs : List Int) : M (List Int) := grd (xs.length < 64) (ok (upI xs))
def pcount (xs : List Int) (k : Int) : M Int := ok (xs.count k : Nat)
def rSetL (K : PySem.W.Frag) (w : World) : List L2.V → Hp → VK → Prop := fun vs H Q => ∃ (p : Addr) (ns : List Int), vs = [.ref p] ∧ SqL K H p (ns.map V.int) ∧ ns.length ≤ 1000 ∧
  ∀ (a : Addr) (n : Nat), H a = none → n ≤ ns.length → Q (.ref a) (upd H a (SetO w a (fun j => decide (j ∈ ns)) n))
section
variable {X : Cx} {G : Ctx} {Γ : Vw} {α β γ ρ θ C : Type} {a b c e j k it tg : Expr} {pos : Pos} {R : Rp ρ} {Z : θ → Dest ρ} {es : List Expr} {B : List Stmt}
theorem cr_setL (hc : X.calm = true) : CallR X (.type "set") (rSetL X.K X.w) := by
  intro pins s σ H xs us Q I r h
  obtain ⟨p, ns, rfl, hs, hl, q⟩ := h
  rw [Vals.ref1 r]
  obtain ⟨its, rv, pt, hlen⟩ := I.list hs
  have hi : IntsAre its.toArray.toList ns := ints_of_vals rv
  refine call_set_lstI ns (I.ok.hd hc) (show s.heap.IsList p its.toArray from by obtain ⟨o, n, ho, hcl, _, hd⟩ := pt; exact ⟨o, ho, hcl, n, hd⟩) hi (by unfold scanBound; omega) fun h' tk n R hn k => ?_
  have np : H s.heap.objs.size = none := I.hok.fresh (Nat.le_refl _)
  exact ⟨.ref _, upd H s.heap.objs.size (SetO X.w s.heap.objs.size (fun j => decide (j ∈ ns)) n), I.laid (t' := tk) k (Nat.le_refl _) (setO_new R), rfl, q _ n np hn⟩
theorem E_sortSet {ra : M (List Int)} {p p2 pos2 : Pos} (hm : X.mg "sorted" = none) (hm2 : X.mg "set" = none) (ha : ET X G Γ a (bor tInt) ra) (hc : G.c = true := by rfl) (hg : Gl X "sorted" := by rfl) (hg2 : Gl X "set" := by rfl)
    (hs1 : starEach [a] X.env = [(false, eval a X.env)] := by rfl) (hs2 : starEach [.Call (.Name "set" p2) [a] [] pos2] X.env = [(false, eval (.Call (.Name "set" p2) [a] [] pos2) X.env)] := by rfl) (hpl : (backTo pos2 (starEach [] X.env)).any (·.1) = false := by rfl) (hpl2 : (backTo pos (starEach [] X.env)).any (·.1) = false := by rfl) :
    ET X G Γ (.Call (.Name "sorted" p) [.Call (.Name "set" p2) [a] [] pos2] [] pos) (own tInt) (ra.bind psortS) := fun w =>
  (pe_callB (cr_sortedSet (w.calm hc)) hg hm (by decide +kernel) (pa_cons (pe_callTy (cr_setL (w.calm hc)) hg2 hm2 (by decide +kernel) (pa_cons (ha w) pa_nil hs1) (by decide) (by decide) hs1 hpl) pa_nil hs2) (by decide) (by decide) hs2 hpl2).weak fun σ H Q ⟨H0, D0, D, os, hr, x, hx, hp⟩ => by
    refine seqEE hr hx hp fun xs H1 D1 fp v _ hx1 e1 r1 f1 hr1 hp1 => ?_
    cases x with
    | ex e => exact absurd hx1 (grd_nx (fun z => nomatch z))
    | ok c =>
      obtain ⟨g1, g2⟩ := grd_ok hx1
      cases g2
      obtain ⟨_, q, vs, rfl, s1, s2⟩ := r1
      have ev : vs = xs.map V.int := Paired.toInts s2
      rw [ev] at s1
      refine ⟨q, xs, rfl, s1, by omega, fun a0 n na hn => ?_⟩
      refine ⟨a0, _, n, rfl, upd_same, by omega, fun ns p0 hup hmem _ np => ?_⟩
      have e2 : ns = upI xs := up_uniq hup upI_up fun k => by rw [hmem k, upI_mem, decide_eq_true_iff]
      subst e2
      have le1 : Le D1 (upd H1 a0 (SetO X.w a0 (fun j => decide (j ∈ xs)) n)) := (Ext.fresh hr1.le na).dh
      have pr : ∀ l : List Int, Paired ((tInt).rep X.K D1) l (l.map V.int) := fun l => by
        induction l with
        | nil => exact .nil
        | cons y l ih => exact .cons rfl ih
      refine own_new (K := X.K) le1 np (A := tInt) (xs := upI xs) (pr _) fun v H' D' fp' ext rep f => ?_
      · exact hp1 v H' D' fp' ((Ext.fresh hr1.le na).trans ext) rep (f.back (Ext.fresh hr1.le na).h)
theorem E_cnt {o : Expr} {ro : M (List Int)} {re : M Int} {p2 ep : Pos} (ho : ET X G Γ o (bor tInt) ro) (he : ET X G Γ e (dat tInt) re)
    (hs1 : starEach [e] X.env = [(false, eval e X.env)] := by rfl)
    (hpl : (backTo ep (starEach [] X.env)).any (·.1) = false := by rfl)
    (hbase : attributeBase o "count" X.env (eval o X.env) = eval o X.env := by rfl)
    (hfew : ((backTo ep (starEach [e] X.env)).all (fun x => !x.1) && (backToKw ep (keywordEach [] X.env)).all (fun x => x.1.isSome)
      && decide (([e] : List Expr).length + ([] : List Keyword).length + (if ([] : List Keyword).isEmpty then 0 else 1) < 30)) = true := by rfl)
    (hline : (p2.endLine == ep.line) = true := by rfl) :
    ET X G Γ (.Call (.Attribute o "count" p2) [e] [] ep) (dat tInt) (ro.bind fun xs => re.bind fun x => pcount xs x) := fun w =>
  (pe_bm PySem.F.plainAttrs_list PySem.F.slot_list_count PySem.F.type_list_count mt_lcount (ho w) (pa_cons (he w) pa_nil hs1) hbase hfew hline hs1 hpl).weak fun σ H Q ⟨H0, D0, D, os, hr, x, hx, hp⟩ => by
    refine seqEE hr hx hp fun xs H1 D1 fp v _ hx1 e1 r1 f1 hr1 hp1 => ?_
    obtain ⟨_, q, vs, rfl, s1, s2⟩ := r1
    refine ⟨.inl ⟨rfl, vs, s1⟩, ?_⟩
    refine seqEE hr1 hx1 hp1 fun y H2 D2 fp2 v2 _ hx2 e2 r2 f2 hr2 hp2 => ?_
    cases hx2
    have ev : vs = xs.map V.int := Paired.toInts s2
    rw [ev] at s1
    have ey : v2 = V.int y := r2.2
    refine ⟨q, xs, y, rfl, by rw [ey], SqL.mono e2.h s1, hp2 _ H2 D2 [] (Ext.refl hr2.le) ⟨rfl, rfl⟩ .nil⟩
end
end T
set_option maxRecDepth 100000
set_option maxHeartbeats 4000000
/-! a list of four things, taken apart -/
namespace T
open PySem PySem.Spec PyProof.Rows L2
section
variable {X : Cx} {G : Ctx} {Γ : Vw} {α β γ δ τ ρ θ C C' : Type} {a b c e it tg : Expr} {pos : Pos} {st : Stmt} {rest B : List Stmt} {R : Rp ρ} {Z : θ → Dest ρ}
theorem E_asL4 {A : Dt α} {r : M (List α)} (h : ET X G Γ a (dat (tLst A)) r) : ET X G Γ a (dat (tLr4 A A A A)) (r.bind asRec4) :=
  E_as (fun x e z => by unfold asRec4 at z; split at z <;> cases z) h fun K H x v y ⟨p, vs, e, h1, h2⟩ hy => by
    unfold asRec4 at hy
    split at hy
    · cases hy
      cases h2 with
      | cons r1 t => cases t with
        | cons r2 t => cases t with
          | cons r3 t => cases t with
            | cons r4 t => cases t; exact ⟨p, _, _, _, _, e, h1, r1, r2, r3, r4⟩
    · cases hy
theorem G_lr4K (K0 : Fr) {t1 t2 t3 t4 : Expr} {s1 s2 s3 s4 : List Nat} {A : Dt α} {B : Dt β} {C : Dt γ} {E : Dt δ} {u1 : α → Vw → Vw} {u2 : β → Vw → Vw} {u3 : γ → Vw → Vw} {u4 : δ → Vw → Vw} {g1 g2 g3 g4 : TG} {k : Nat} {p : Pos} (h1 : GT X t1 s1 A u1 g1) (h2 : GT X t2 s2 B u2 g2) (h3 : GT X t3 s3 C u3 g3) (h4 : GT X t4 s4 E u4 g4) (hK : X.K = K0 := by rfl)
    (hs1 : (assignEach [t1, t2, t3, t4] X.env).map (·.2) = assign t1 X.env :: (assignEach [t2, t3, t4] X.env).map (·.2) := by rfl) (hs2 : (assignEach [t2, t3, t4] X.env).map (·.2) = assign t2 X.env :: (assignEach [t3, t4] X.env).map (·.2) := by rfl) (hs3 : (assignEach [t3, t4] X.env).map (·.2) = assign t3 X.env :: (assignEach [t4] X.env).map (·.2) := by rfl) (hs4 : (assignEach [t4] X.env).map (·.2) = assign t4 X.env :: (assignEach [] X.env).map (·.2) := by rfl)
    (hn : (assignEach [t1, t2, t3, t4] X.env).length = 4 := by rfl) (hst : (assignEach [t1, t2, t3, t4] X.env).findIdx? (·.1) = none := by rfl) : GT X (.Tuple [t1, t2, t3, t4] k p) (s1 ++ s2 ++ s3 ++ s4) (tLr4 A B C E) (fun x Γ => u4 x.2.2.2 (u3 x.2.2.1 (u2 x.2.1 (u1 x.1 Γ)))) (gLst K0 4 (gCons g1 (gCons g2 (gCons g3 (gCons g4 gNil))))) := by
  subst hK
  exact ⟨fun nd hc => by
    obtain ⟨p1, q1⟩ := h1.ex nd hc
    obtain ⟨p2, q2⟩ := h2.ex nd hc
    obtain ⟨p3, q3⟩ := h3.ex nd hc
    obtain ⟨p4, q4⟩ := h4.ex nd hc
    refine ⟨pg_lst hc (pgs_cons p1 (pgs_cons p2 (pgs_cons p3 (pgs_cons p4 pgs_nil hs4) hs3) hs2) hs1) hn hst, fun H0 D0 H D Γ σ os x v Q hl hr ⟨p, v1, v2, v3, v4, r1, r2, r3, r4, r5, r6⟩ k => ?_⟩
    refine ⟨p, [v1, v2, v3, v4], r1, SqL.of (hr.le _ _ r2), rfl, v1, [v2, v3, v4], rfl, q1 H0 D0 H D Γ σ os x.1 v1 _ hl hr r3 fun σ' os' hl' hw' hr' => ⟨v2, [v3, v4], rfl, q2 H0 D0 H D _ σ' os' x.2.1 v2 _ hl' hr' r4 fun σ2 os2 hl2 hw2 hr2 => ⟨v3, [v4], rfl, q3 H0 D0 H D _ σ2 os2 x.2.2.1 v3 _ hl2 hr2 r5 fun σ3 os3 hl3 hw3 hr3 => ⟨v4, [], rfl, q4 H0 D0 H D _ σ3 os3 x.2.2.2 v4 _ hl3 hr3 r6 fun σ4 os4 hl4 hw4 hr4 => ⟨rfl, k σ4 os4 hl4 (fun vs h => ?_) hr4⟩⟩⟩⟩⟩
    rw [hw4 vs fun i hi => h i (List.mem_append_right _ hi), hw3 vs fun i hi => h i (List.mem_append_left _ (List.mem_append_right _ hi)), hw2 vs fun i hi => h i (List.mem_append_left _ (List.mem_append_left _ (List.mem_append_right _ hi))), hw' vs fun i hi => h i (List.mem_append_left _ (List.mem_append_left _ (List.mem_append_left _ hi)))]⟩
end
end T
set_option maxRecDepth 100000
set_option maxHeartbeats 4000000
/-! zip of two sequences, each a list or a tuple -/
namespace ZB
open PySem PySem.Spec PyProof.Rows L2
def IterB (b : Bool) (h : Heap) (it l : Addr) (i : Nat) : Prop := match b with
  | true => h.IsTupleIter it l i
  | false => h.IsListIter it l i
def SeqB (b : Bool) (h : Heap) (l : Addr) (xs : Array Value) : Prop := match b with
  | true => h.IsTuple l xs
  | false => h.IsList l xs
section
variable {prog : Program} {w : World} {A : Around} {E : Value → Shared → Prop} {s : Shared} {b b1 b2 : Bool}
theorem IterB.extBut {h h' : Heap} {it l z : Addr} {i : Nat} (a : IterB b h it l i) (e : Heap.ExtBut z h h') (n : it ≠ z) : IterB b h' it l i := by
  cases b with
  | true => exact Heap.IsTupleIter.extBut a e n
  | false => exact Heap.IsListIter.extBut a e n
theorem SeqB.extBut {h h' : Heap} {l z : Addr} {xs : Array Value} (a : SeqB b h l xs) (e : Heap.ExtBut z h h') (n : l ≠ z) : SeqB b h' l xs := by
  cases b with
  | true => exact Heap.IsTuple.extBut a e n
  | false => exact Heap.IsList.extBut a e n
theorem IterB.at {h h' : Heap} {it l : Addr} {i : Nat} (a : IterB b h it l i) (k : ∀ o, h.get? it = some o → h'.get? it = some o) : IterB b h' it l i := by
  cases b with
  | true => exact Heap.IsTupleIter.at a k
  | false => exact Heap.IsListIter.at a k
theorem IterB.obj {h : Heap} {it l : Addr} {i : Nat} (a : IterB b h it l i) : ∃ o, h.get? it = some o ∧ ∀ v, o.data ≠ .cell v := by
  cases b with
  | true => obtain ⟨o, e, _, d⟩ := a; exact ⟨o, e, fun v q => by rw [d] at q; cases q⟩
  | false => obtain ⟨o, e, _, d⟩ := a; exact ⟨o, e, fun v q => by rw [d] at q; cases q⟩
theorem IterB.lt {h : Heap} {it l : Addr} {i : Nat} (a : IterB b h it l i) : it < h.objs.size := by
  cases b with
  | true => obtain ⟨_, e, _⟩ := a; exact Heap.lt_size e
  | false => obtain ⟨_, e, _⟩ := a; exact Heap.lt_size e
theorem nextB_item {it l : Addr} {i : Nat} {items : Array Value} {x : Value} {Q : Value → Shared → Prop} (hit : IterB b s.heap it l i) (hl : SeqB b s.heap l items) (hx : items[i]? = some x)
    (hQ : ∀ h', IterB b h' it l (i + 1) → Heap.SameBut it s.heap h' → Q x { s with heap := h' }) : wpAny (model prog w) A (Builtin.SmallTypes.nextOf (.ref it)) Q E s := by
  cases b with
  | true => exact RZ.nextOf_tuple_item hit hl hx hQ
  | false => exact wpAny_nextOf_list_item hit hl hx hQ
theorem nextB_end {it l : Addr} {i : Nat} {items : Array Value} {Q : Value → Shared → Prop} (hh : A.handled = none) (hit : IterB b s.heap it l i) (hl : SeqB b s.heap l items) (hx : items[i]? = none)
    (hE : ∀ h' e, Heap.ExtBut it s.heap h' → (∃ o, h'.get? e = some o ∧ o.cls = .type "StopIteration") → E (.ref e) { s with heap := h' }) : wpAny (model prog w) A (Builtin.SmallTypes.nextOf (.ref it)) Q E s := by
  cases b with
  | true => exact RZ.nextOf_tuple_end hh hit hl hx hE
  | false => exact wpAny_nextOf_list_end hh hit hl hx hE
/-- both draw an item -/
theorem next_item {z TI TO i1 i2 l1 l2 : Addr} {k1 k2 : Nat} {xs ys : Array Value} {x y a b : Value} {Q : Value → Shared → Prop} (D : ZipApart z TI TO i1 i2 l1 l2)
    (hz : IsZip s.heap z TI TO .none) (hTI : IsPair s.heap TI (.ref i1) (.ref i2)) (hTO : IsPair s.heap TO a b)
    (h1 : IterB b1 s.heap i1 l1 k1) (h2 : IterB b2 s.heap i2 l2 k2) (hl1 : SeqB b1 s.heap l1 xs) (hl2 : SeqB b2 s.heap l2 ys) (hx : xs[k1]? = some x) (hy : ys[k2]? = some y)
    (hQ : ∀ h', IsZip h' z TI TO (rawInt s.heap.objs.size) → IsPair h' TO x y → IterB b1 h' i1 l1 (k1 + 1) → IterB b2 h' i2 l2 (k2 + 1) → IsPair h' s.heap.objs.size x y → h'.objs.size = s.heap.objs.size + 1 →
      (∀ c o, c ≠ z → c ≠ TO → c ≠ i1 → c ≠ i2 → s.heap.get? c = some o → h'.get? c = some o) → Q (.ref s.heap.objs.size) { s with heap := h' }) :
    wpAny (model prog w) A (Builtin.«zip.__next__» ⟨[.ref z], []⟩) (fun fin s' => ∃ v, fin = .done (.ret v) ∧ Q v s') E s := by
  show wpAny _ _ (field (.ref z) 2 >>= _) _ _ _
  refine wpAny_bind (wpAny_field hz rfl (x := .bool false) rfl ?_)
  show wpAny _ _ (field (.ref z) 3 >>= _) _ _ _
  refine wpAny_bind (wpAny_field hz rfl (x := .ref TI) rfl (wpAny_bind (wpAny_seqItems hTI rfl ?_)))
  show wpAny _ _ (Builtin.SmallTypes.ownedTupleIsFree (.ref z) >>= _) _ _ _
  refine wpAny_bind ?_
  unfold Builtin.SmallTypes.ownedTupleIsFree
  refine wpAny_bind (wpAny_field hz rfl (x := .none) rfl (wpAny_pure ?_))
  simp only [if_true]
  refine wpAny_bind (wpAny_rule (wpAny_bind (wpAny_field hz rfl (x := .ref TO) rfl (wpAny_bind (wpAny_setField_rec hz (by simp) fun g1 z1 s1 => ?_)))))
  replace z1 : IsZip g1 z TI TO .ellipsis := z1
  refine wpAny_bind ?_
  simp only [List.zipIdx_cons, List.zipIdx_nil, List.forIn_cons, List.forIn_nil]
  have u1 := s1.extBut
  refine wpAny_bind (wpAny_bind (wpAny_onRaise ?_))
  show wpAny _ _ (Builtin.SmallTypes.nextOf (.ref i1) >>= _) _ _ _
  refine wpAny_bind (nextB_item (h1.extBut u1 D.i1z) (hl1.extBut u1 D.l1z) hx fun g2 n1 s2 => wpAny_pure ?_)
  have u2 := s2.extBut
  have t2 : IsPair g2 TO a b := u2 _ _ D.TOi1 (u1 _ _ D.TOz hTO)
  refine wpAny_bind (wpAny_seqItems t2 rfl (wpAny_bind (wpAny_updateSeq_pair t2 fun g3 t3 s3 => ?_)))
  have u3 := s3.extBut
  replace t3 : IsPair g3 TO x b := t3
  refine wpAny_bind (wpAny_letGo (wpAny_pure (wpAny_bind (wpAny_bind (wpAny_onRaise ?_)))))
  show wpAny _ _ (Builtin.SmallTypes.nextOf (.ref i2) >>= _) _ _ _
  refine wpAny_bind (nextB_item (((h2.extBut u1 D.i2z).extBut u2 D.i12.symm).extBut u3 D.TOi2.symm) (((hl2.extBut u1 D.l2z).extBut u2 D.l2i1).extBut u3 D.l2TO) hy fun g4 n2 s4 => wpAny_pure ?_)
  have u4 := s4.extBut
  have t4 : IsPair g4 TO x b := u4 _ _ D.TOi2 t3
  refine wpAny_bind (wpAny_seqItems t4 rfl (wpAny_bind (wpAny_updateSeq_pair t4 fun g5 t5 s5 => ?_)))
  have u5 := s5.extBut
  replace t5 : IsPair g5 TO x y := t5
  refine wpAny_bind (wpAny_letGo (wpAny_pure (wpAny_pure (wpAny_bind (wpAny_seqItems t5 rfl (wpAny_bind (wpAny_newTuple ?_)))))))
  have hsz : g5.objs.size = s.heap.objs.size := by rw [s5.1, s4.1, s3.1, s2.1, s1.1]
  have z5 : IsZip g5 z TI TO .ellipsis := u5 _ _ D.TOz.symm (u4 _ _ D.i2z.symm (u3 _ _ D.TOz.symm (u2 _ _ D.i1z.symm z1)))
  have m1 : IterB b1 g5 i1 l1 (k1 + 1) := ((n1.extBut u3 D.TOi1.symm).extBut u4 D.i12).extBut u5 D.TOi1.symm
  have m2 : IterB b2 g5 i2 l2 (k2 + 1) := n2.extBut u5 D.TOi2.symm
  have zlt : z < g5.objs.size := Heap.lt_size z5
  show wpAny _ _ (Builtin.SmallTypes.ownedTupleHandOut (.ref z) (.ref g5.objs.size) >>= _) _ _ _
  refine wpAny_bind ?_
  unfold Builtin.SmallTypes.ownedTupleHandOut
  have z6 : IsZip (g5.push { cls := .type "tuple", data := .seq #[x, y] }) z TI TO .ellipsis := Heap.get?_push_of_some _ z5
  refine wpAny_bind (wpAny_setField_rec z6 (by simp) fun g7 z7 s7 => ?_)
  replace z7 : IsZip g7 z TI TO (rawInt g5.objs.size) := z7
  refine wpAny_setField_rec z7 (by simp) fun g8 z8 s8 => ?_
  replace z8 : IsZip g8 z TI TO (rawInt g5.objs.size) := z8
  have up : ∀ c o, c ≠ z → g5.get? c = some o → g8.get? c = some o := fun c o c1 e => s8.extBut _ _ c1 (s7.extBut _ _ c1 (Heap.get?_push_of_some _ e))
  have t8 : IsPair g8 g5.objs.size x y := s8.extBut _ _ (Nat.ne_of_gt zlt) (s7.extBut _ _ (Nat.ne_of_gt zlt) (Heap.get?_push_size _ rfl))
  have l8 : g8.objs.size = g5.objs.size + 1 := by rw [s8.1, s7.1, Heap.size_push]
  rw [hsz] at z8 t8 l8
  refine wpAny_pure ⟨_, rfl, ?_⟩
  show Q (.ref g5.objs.size) _
  rw [hsz]
  exact hQ g8 z8 (up _ _ D.TOz t5) (m1.at fun o e => up _ o D.i1z e) (m2.at fun o e => up _ o D.i2z e) t8 l8 fun c o c1 c2 c3 c4 e =>
    up c o c1 (u5 _ _ c2 (u4 _ _ c4 (u3 _ _ c2 (u2 _ _ c3 (u1 _ _ c1 e)))))
/-- one of them has none left -/
theorem next_end {z TI TO i1 i2 l1 l2 : Addr} {k1 k2 : Nat} {xs ys : Array Value} {a b : Value} {Q : Fin → Shared → Prop} (hh : A.handled = none) (D : ZipApart z TI TO i1 i2 l1 l2)
    (hz : IsZip s.heap z TI TO .none) (hTI : IsPair s.heap TI (.ref i1) (.ref i2)) (hTO : IsPair s.heap TO a b)
    (h1 : IterB b1 s.heap i1 l1 k1) (h2 : IterB b2 s.heap i2 l2 k2) (hl1 : SeqB b1 s.heap l1 xs) (hl2 : SeqB b2 s.heap l2 ys) (hend : xs[k1]? = none ∨ ys[k2]? = none)
    (hE : ∀ h' e, (∀ c o, c ≠ z → c ≠ TO → c ≠ i1 → c ≠ i2 → s.heap.get? c = some o → h'.get? c = some o) → (∃ o, h'.get? e = some o ∧ o.cls = .type "StopIteration") → E (.ref e) { s with heap := h' }) :
    wpAny (model prog w) A (Builtin.«zip.__next__» ⟨[.ref z], []⟩) Q E s := by
  show wpAny _ _ (field (.ref z) 2 >>= _) _ _ _
  refine wpAny_bind (wpAny_field hz rfl (x := .bool false) rfl ?_)
  show wpAny _ _ (field (.ref z) 3 >>= _) _ _ _
  refine wpAny_bind (wpAny_field hz rfl (x := .ref TI) rfl (wpAny_bind (wpAny_seqItems hTI rfl ?_)))
  show wpAny _ _ (Builtin.SmallTypes.ownedTupleIsFree (.ref z) >>= _) _ _ _
  refine wpAny_bind ?_
  unfold Builtin.SmallTypes.ownedTupleIsFree
  refine wpAny_bind (wpAny_field hz rfl (x := .none) rfl (wpAny_pure ?_))
  simp only [if_true]
  refine wpAny_bind (wpAny_rule (wpAny_bind (wpAny_field hz rfl (x := .ref TO) rfl (wpAny_bind (wpAny_setField_rec hz (by simp) fun g1 z1 s1 => ?_)))))
  replace z1 : IsZip g1 z TI TO .ellipsis := z1
  refine wpAny_bind ?_
  simp only [List.zipIdx_cons, List.zipIdx_nil, List.forIn_cons, List.forIn_nil]
  have u1 := s1.extBut
  refine wpAny_bind (wpAny_bind (wpAny_onRaise ?_))
  show wpAny _ _ (Builtin.SmallTypes.nextOf (.ref i1) >>= _) _ _ _
  cases hx : xs[k1]? with
  | none =>
    refine wpAny_bind (nextB_end hh (h1.extBut u1 D.i1z) (hl1.extBut u1 D.l1z) hx fun g2 e u2 ⟨oe, hoe, hce⟩ => ?_)
    have z2 : IsZip g2 z TI TO .ellipsis := u2 _ _ D.i1z.symm z1
    have hez : e ≠ z := fun q => by subst q; rw [z2] at hoe; cases hoe; simp at hce
    exact wpAny_setField_rec z2 (by simp) fun g3 _ s3 => hE g3 e (fun c o c1 _ c3 _ q => s3.extBut _ _ c1 (u2 _ _ c3 (u1 _ _ c1 q))) ⟨oe, s3.extBut _ _ hez hoe, hce⟩
  | some x =>
    have hy : ys[k2]? = none := by
      rcases hend with h | h
      · rw [hx] at h; cases h
      · exact h
    refine wpAny_bind (nextB_item (h1.extBut u1 D.i1z) (hl1.extBut u1 D.l1z) hx fun g2 n1 s2 => wpAny_pure ?_)
    have u2 := s2.extBut
    have t2 : IsPair g2 TO a b := u2 _ _ D.TOi1 (u1 _ _ D.TOz hTO)
    refine wpAny_bind (wpAny_seqItems t2 rfl (wpAny_bind (wpAny_updateSeq_pair t2 fun g3 t3 s3 => ?_)))
    have u3 := s3.extBut
    refine wpAny_bind (wpAny_letGo (wpAny_pure (wpAny_bind (wpAny_bind (wpAny_onRaise ?_)))))
    show wpAny _ _ (Builtin.SmallTypes.nextOf (.ref i2) >>= _) _ _ _
    refine wpAny_bind (nextB_end hh (((h2.extBut u1 D.i2z).extBut u2 D.i12.symm).extBut u3 D.TOi2.symm) (((hl2.extBut u1 D.l2z).extBut u2 D.l2i1).extBut u3 D.l2TO) hy fun g4 e u4 ⟨oe, hoe, hce⟩ => ?_)
    have z4 : IsZip g4 z TI TO .ellipsis := u4 _ _ D.i2z.symm (u3 _ _ D.TOz.symm (u2 _ _ D.i1z.symm z1))
    have hez : e ≠ z := fun q => by subst q; rw [z4] at hoe; cases hoe; simp at hce
    exact wpAny_setField_rec z4 (by simp) fun g5 _ s5 => hE g5 e (fun c o c1 c2 c3 c4 q => s5.extBut _ _ c1 (u4 _ _ c4 (u3 _ _ c2 (u2 _ _ c3 (u1 _ _ c1 q))))) ⟨oe, s5.extBut _ _ hez hoe, hce⟩
theorem pyNext_item {z TI TO i1 i2 l1 l2 : Addr} {k1 k2 : Nat} {xs ys : Array Value} {x y a b : Value} {Q : Option Value → Shared → Prop} (D : ZipApart z TI TO i1 i2 l1 l2)
    (hz : IsZip s.heap z TI TO .none) (hTI : IsPair s.heap TI (.ref i1) (.ref i2)) (hTO : IsPair s.heap TO a b)
    (h1 : IterB b1 s.heap i1 l1 k1) (h2 : IterB b2 s.heap i2 l2 k2) (hl1 : SeqB b1 s.heap l1 xs) (hl2 : SeqB b2 s.heap l2 ys) (hx : xs[k1]? = some x) (hy : ys[k2]? = some y)
    (hQ : ∀ h', IsZip h' z TI TO (rawInt s.heap.objs.size) → IsPair h' TO x y → IterB b1 h' i1 l1 (k1 + 1) → IterB b2 h' i2 l2 (k2 + 1) → IsPair h' s.heap.objs.size x y → h'.objs.size = s.heap.objs.size + 1 →
      (∀ c o, c ≠ z → c ≠ TO → c ≠ i1 → c ≠ i2 → s.heap.get? c = some o → h'.get? c = some o) → Q (some (.ref s.heap.objs.size)) { s with heap := h' }) :
    wpAny (model prog w) A (pyNext (.ref z)) Q E s := by
  have hT : s.TypeIs (.ref z) "zip" := ⟨_, hz, rfl⟩
  unfold pyNext
  exact wpAny_bind (wpAny_attempt (wpAny_callSpecial?_slot (name := Str.ofString "__next__") hT F.slot_zip_next
    (wpAny_call_entry F.slot_zip_next hT F.entry_zip_next (next_item D hz hTI hTO h1 h2 hl1 hl2 hx hy fun h' a1 a2 a3 a4 a5 a6 a7 => wpAny_pure (hQ h' a1 a2 a3 a4 a5 a6 a7)) (F.args_zip_next_1 _))))
theorem pyNext_end {z TI TO i1 i2 l1 l2 : Addr} {k1 k2 : Nat} {xs ys : Array Value} {a b : Value} {Q : Option Value → Shared → Prop} (hh : A.handled = none) (D : ZipApart z TI TO i1 i2 l1 l2)
    (hz : IsZip s.heap z TI TO .none) (hTI : IsPair s.heap TI (.ref i1) (.ref i2)) (hTO : IsPair s.heap TO a b)
    (h1 : IterB b1 s.heap i1 l1 k1) (h2 : IterB b2 s.heap i2 l2 k2) (hl1 : SeqB b1 s.heap l1 xs) (hl2 : SeqB b2 s.heap l2 ys) (hend : xs[k1]? = none ∨ ys[k2]? = none)
    (hQ : ∀ h', (∀ c o, c ≠ z → c ≠ TO → c ≠ i1 → c ≠ i2 → s.heap.get? c = some o → h'.get? c = some o) → Q none { s with heap := h' }) : wpAny (model prog w) A (pyNext (.ref z)) Q E s := by
  have hT : s.TypeIs (.ref z) "zip" := ⟨_, hz, rfl⟩
  unfold pyNext
  refine wpAny_bind (wpAny_attempt (wpAny_callSpecial?_slot (name := Str.ofString "__next__") hT F.slot_zip_next
    (wpAny_call_entry F.slot_zip_next hT F.entry_zip_next (next_end hh D hz hTI hTO h1 h2 hl1 hl2 hend fun h' e hk ⟨o, ho, hc⟩ => ?_) (F.args_zip_next_1 _))))
  exact wpAny_bind (wpAny_isInstance (T := "StopIteration") (b := true) ⟨o, ho, hc⟩ isSubtype_stop (wpAny_pure (hQ _ hk)))
end
abbrev itO (b : Bool) (l : Addr) : Obj := { cls := .type (match b with | true => "tuple_iterator" | false => "list_iterator"), data := .fields #[.ref l, .int 0 0] }
abbrev H1 (b1 : Bool) (h : Heap) (l1 : Addr) : Heap := h.push (itO b1 l1)
abbrev H2 (b1 b2 : Bool) (h : Heap) (l1 l2 : Addr) : Heap := (H1 b1 h l1).push (itO b2 l2)
abbrev H3 (b1 b2 : Bool) (h : Heap) (l1 l2 : Addr) : Heap := (H2 b1 b2 h l1 l2).push { cls := .type "tuple", data := .seq #[.ref h.objs.size, .ref (H1 b1 h l1).objs.size] }
abbrev H4 (b1 b2 : Bool) (h : Heap) (l1 l2 : Addr) : Heap := (H3 b1 b2 h l1 l2).push { cls := .type "tuple", data := .seq #[.none, .none] }
abbrev H5 (b1 b2 : Bool) (h : Heap) (l1 l2 : Addr) : Heap := (H4 b1 b2 h l1 l2).push { cls := .type "zip", data := .fields #[.none, .bool false, .bool false, .ref (H2 b1 b2 h l1 l2).objs.size, .ref (H3 b1 b2 h l1 l2).objs.size] }
theorem meets_TL (l1 l2 : Addr) (xs ys : Array Value) :
    Meets (Builtin.«zip.__new__» ⟨[.type "zip", .ref l1, .ref l2], []⟩) (fun _ R s => s.heap.IsTuple l1 xs ∧ s.heap.IsList l2 ys ∧ R (.ok (.ret (.ref (H4 true false s.heap l1 l2).objs.size))) { s with heap := H5 true false s.heap l1 l2 }) :=
  .of_wp fun prog w A R s h => by
    obtain ⟨hp, g, d, tk, os⟩ := s; obtain ⟨hl1, hl2, h⟩ := h
    have hsub := sub_zip
    have hL1 : Heap.IsTuple (Shared.heap ⟨hp, g, d, tk, os⟩) l1 xs := hl1
    have hL2 : Heap.IsList (Shared.heap ⟨hp.push { cls := .type "tuple_iterator", data := .fields #[.ref l1, .int 0 0] }, g, d, tk, os⟩) l2 ys := Heap.IsList.push hl2 _
    wp_walk using wpAny_pyIter_tuple hL1, wpAny_pyIter_list hL2
    exact ⟨_, rfl, h⟩
theorem meets_LT (l1 l2 : Addr) (xs ys : Array Value) :
    Meets (Builtin.«zip.__new__» ⟨[.type "zip", .ref l1, .ref l2], []⟩) (fun _ R s => s.heap.IsList l1 xs ∧ s.heap.IsTuple l2 ys ∧ R (.ok (.ret (.ref (H4 false true s.heap l1 l2).objs.size))) { s with heap := H5 false true s.heap l1 l2 }) :=
  .of_wp fun prog w A R s h => by
    obtain ⟨hp, g, d, tk, os⟩ := s; obtain ⟨hl1, hl2, h⟩ := h
    have hsub := sub_zip
    have hL1 : Heap.IsList (Shared.heap ⟨hp, g, d, tk, os⟩) l1 xs := hl1
    have hL2 : Heap.IsTuple (Shared.heap ⟨hp.push { cls := .type "list_iterator", data := .fields #[.ref l1, .int 0 0] }, g, d, tk, os⟩) l2 ys := Heap.IsTuple.push hl2 _
    wp_walk using wpAny_pyIter_list hL1, wpAny_pyIter_tuple hL2
    exact ⟨_, rfl, h⟩
section
variable {prog : Program} {w : World} {A : Around} {E : Value → Shared → Prop} {s : Shared} {b1 b2 : Bool}
/-- what zip(x, y) leaves -/
theorem facts5 (h : Heap) (l1 l2 : Addr) {Q : Value → Heap → Prop}
    (k : ∀ h', IsZip h' (h.objs.size + 4) (h.objs.size + 2) (h.objs.size + 3) .none → IsPair h' (h.objs.size + 2) (.ref h.objs.size) (.ref (h.objs.size + 1)) →
      IsPair h' (h.objs.size + 3) .none .none → IterB b1 h' h.objs.size l1 0 → IterB b2 h' (h.objs.size + 1) l2 0 → h'.objs.size = h.objs.size + 5 →
      (∀ c o, h.get? c = some o → h'.get? c = some o) → Q (.ref (h.objs.size + 4)) h') :
    (∃ o, (H5 b1 b2 h l1 l2).get? (h.objs.size + 4) = some o ∧ o.cls = .type "zip") ∧ (H4 b1 b2 h l1 l2).objs.size = h.objs.size + 4 ∧ Q (.ref (h.objs.size + 4)) (H5 b1 b2 h l1 l2) := by
  have z1 : (H1 b1 h l1).objs.size = h.objs.size + 1 := Heap.size_push ..
  have z2 : (H2 b1 b2 h l1 l2).objs.size = h.objs.size + 2 := by rw [Heap.size_push, z1]
  have z3 : (H3 b1 b2 h l1 l2).objs.size = h.objs.size + 3 := by rw [Heap.size_push, z2]
  have z4 : (H4 b1 b2 h l1 l2).objs.size = h.objs.size + 4 := by rw [Heap.size_push, z3]
  have z5 : (H5 b1 b2 h l1 l2).objs.size = h.objs.size + 5 := by rw [Heap.size_push, z4]
  have g5 : (H5 b1 b2 h l1 l2).get? (H4 b1 b2 h l1 l2).objs.size = some _ := Heap.get?_push_size _ rfl
  have g4 : (H5 b1 b2 h l1 l2).get? (H3 b1 b2 h l1 l2).objs.size = some _ := Heap.get?_push_of_some _ (Heap.get?_push_size _ rfl)
  have g3 : (H5 b1 b2 h l1 l2).get? (H2 b1 b2 h l1 l2).objs.size = some _ := Heap.get?_push_of_some _ (Heap.get?_push_of_some _ (Heap.get?_push_size _ rfl))
  have g2 : (H5 b1 b2 h l1 l2).get? (H1 b1 h l1).objs.size = some (itO b2 l2) := Heap.get?_push_of_some _ (Heap.get?_push_of_some _ (Heap.get?_push_of_some _ (Heap.get?_push_size _ (by cases b2 <;> rfl))))
  have g1 : (H5 b1 b2 h l1 l2).get? h.objs.size = some (itO b1 l1) := Heap.get?_push_of_some _ (Heap.get?_push_of_some _ (Heap.get?_push_of_some _ (Heap.get?_push_of_some _ (Heap.get?_push_size _ (by cases b1 <;> rfl)))))
  rw [z2, z3, z4] at g5
  rw [z1, z2] at g3
  rw [z3] at g4
  rw [z1] at g2
  have i1 : IterB b1 (H5 b1 b2 h l1 l2) h.objs.size l1 0 := by
    cases b1 with
    | true => exact ⟨_, g1, rfl, rfl⟩
    | false => exact ⟨_, g1, rfl, rfl⟩
  have i2 : IterB b2 (H5 b1 b2 h l1 l2) (h.objs.size + 1) l2 0 := by
    cases b2 with
    | true => exact ⟨_, g2, rfl, rfl⟩
    | false => exact ⟨_, g2, rfl, rfl⟩
  exact ⟨⟨_, g5, rfl⟩, z4, k _ g5 g3 g4 i1 i2 z5 fun c o x =>
    Heap.get?_push_of_some _ (Heap.get?_push_of_some _ (Heap.get?_push_of_some _ (Heap.get?_push_of_some _ (Heap.get?_push_of_some _ x))))⟩
theorem call_zipB {l1 l2 : Addr} {xs ys : Array Value} {Q : Value → Shared → Prop} (hl1 : SeqB b1 s.heap l1 xs) (hl2 : SeqB b2 s.heap l2 ys)
    (h : ∀ h', IsZip h' (s.heap.objs.size + 4) (s.heap.objs.size + 2) (s.heap.objs.size + 3) .none → IsPair h' (s.heap.objs.size + 2) (.ref s.heap.objs.size) (.ref (s.heap.objs.size + 1)) →
      IsPair h' (s.heap.objs.size + 3) .none .none → IterB b1 h' s.heap.objs.size l1 0 → IterB b2 h' (s.heap.objs.size + 1) l2 0 → h'.objs.size = s.heap.objs.size + 5 →
      (∀ c o, s.heap.get? c = some o → h'.get? c = some o) → Q (.ref (s.heap.objs.size + 4)) { s with heap := h' }) :
    wpAny (model prog w) A (call (.type "zip") [.ref l1, .ref l2]) Q E s := by
  have F5 := facts5 (b1 := b1) (b2 := b2) s.heap l1 l2 (Q := fun v h' => Q v { s with heap := h' }) h
  obtain ⟨c1, c2, c3⟩ := F5
  cases b1 with
  | true =>
    cases b2 with
    | true => exact RZ.call_zipT hl1 hl2 h
    | false =>
      refine callType_new F.called_zip (by decide) (F.typeCall_zip_2 _ _) (F.newCall_zip_2 _ _) (fun obj => F.args_object_init_3 obj _ _) F.entry_zip_new (meets_TL l1 l2 xs ys) ⟨hl1, hl2, ?_⟩
      rw [c2]
      exact ⟨c1, c3⟩
  | false =>
    cases b2 with
    | true =>
      refine callType_new F.called_zip (by decide) (F.typeCall_zip_2 _ _) (F.newCall_zip_2 _ _) (fun obj => F.args_object_init_3 obj _ _) F.entry_zip_new (meets_LT l1 l2 xs ys) ⟨hl1, hl2, ?_⟩
      rw [c2]
      exact ⟨c1, c3⟩
    | false => exact call_zip_2 hl1 hl2 h
/-! the walk -/
def SqB (b : Bool) (K : PySem.W.Frag) (H : Hp) (a : Addr) (xs : List V) : Prop := match b with
  | true => SqT K H a xs
  | false => SqL K H a xs
def ItzB (b1 b2 : Bool) (K : PySem.W.Frag) (a b : Addr) : It :=
  ⟨fun i H => ∃ (xs ys : List V) (x y : V), SqB b1 K H a xs ∧ SqB b2 K H b ys ∧ xs[i]? = some x ∧ ys[i]? = some y,
    fun i H v H' => ∃ T x y, v = .ref T ∧ H T = none ∧ H' = upd H T (.tup [x, y]) ∧ (∀ xs, SqB b1 K H a xs → xs[i]? = some x) ∧ ∀ ys, SqB b2 K H b ys → ys[i]? = some y,
    fun i H => ∃ xs ys : List V, SqB b1 K H a xs ∧ SqB b2 K H b ys ∧ (xs.length ≤ i ∨ ys.length ≤ i)⟩
end
section
variable {X : Cx} {pins : List (Addr × Obj)} {σ : L2.St} {H : Hp} {s : Shared} {b : Bool} {a : Addr} {xs ys : List V}
theorem seq_of (I : Inv X pins σ H s) (h : SqB b X.K H a xs) : ∃ its, Vals xs its ∧ SeqB b s.heap a its.toArray ∧ a < s.heap.objs.size := by
  cases b with
  | true =>
    obtain ⟨its, rv, p, _⟩ := I.tuple h
    obtain ⟨o, ho, _⟩ := id p
    exact ⟨its, rv, p, Heap.lt_size ho⟩
  | false =>
    obtain ⟨its, rv, p, _⟩ := I.list h
    exact ⟨its, rv, p.isList, p.lt⟩
theorem seq_inj (I : Inv X pins σ H s) (h : SqB b X.K H a xs) (h2 : SqB b X.K H a ys) : xs = ys := by
  cases b with
  | true => exact I.tuple_inj h h2
  | false => exact I.list_inj h h2
end
theorem turn_zipB {P : Program} {w : World} {K : PySem.W.Frag} {elts : List Expr} {kk : Nat} {tpos : Pos} {b1 b2 : Bool} {a b z TI TO i1 i2 : Addr} (D : ZipApart z TI TO i1 i2 a b) :
    Turn P w K (.Tuple elts kk tpos) (ItzB b1 b2 K a b) [z, TI, TO, i1, i2] z (fun i h => IsZip h z TI TO .none ∧ IsPair h TI (.ref i1) (.ref i2) ∧ (∃ x y, IsPair h TO x y) ∧ IterB b1 h i1 a i ∧ IterB b2 h i2 b i) where
  mem := by simp
  obj := fun i h st c hc => by
    obtain ⟨hz, hTI, ⟨x, y, hTO⟩, m1, m2⟩ := st
    have e' : c = z ∨ c = TI ∨ c = TO ∨ c = i1 ∨ c = i2 := by simpa using hc
    rcases e' with q | q | q | q | q
    · rw [q]; exact ⟨_, hz, fun v q => nomatch q⟩
    · rw [q]; exact ⟨_, hTI, fun v q => nomatch q⟩
    · rw [q]; exact ⟨_, hTO, fun v q => nomatch q⟩
    · rw [q]; exact m1.obj
    · rw [q]; exact m2.obj
  keep := fun i h h' st k => by
    obtain ⟨hz, hTI, ⟨x, y, hTO⟩, m1, m2⟩ := st
    exact ⟨k z (by simp) _ hz, k TI (by simp) _ hTI, ⟨x, y, k TO (by simp) _ hTO⟩, m1.at fun o q => k i1 (by simp) o q, m2.at fun o q => k i2 (by simp) o q⟩
  item := by
    intro X hP hw hK hc i pins s σ H E I hf st hg
    subst hP hw hK
    obtain ⟨hz, hTI, ⟨x0, y0, hTO⟩, m1, m2⟩ := st
    obtain ⟨xs, ys, x, y, hqx, hqy, hx, hy⟩ := hg
    obtain ⟨its, rv, p, _⟩ := seq_of I hqx
    obtain ⟨its2, rv2, p2, _⟩ := seq_of I hqy
    obtain ⟨u, hu, ru⟩ := rv.get hx
    obtain ⟨u2, hu2, ru2⟩ := rv2.get hy
    have hzl : z < s.heap.objs.size := Heap.lt_size hz
    refine pyNext_item D hz hTI hTO m1 m2 p p2 (x := u) (y := u2) (by simpa using hu) (by simpa using hu2) fun h' z' TO' n1 n2 hT hsz hk => ?_
    refine ⟨_, rfl, wpAny_letOwnedTupleGo_zip (s := { s with heap := h' }) z' fun h'' z'' sb => ?_⟩
    have hT2 : h''.get? s.heap.objs.size = some { cls := .type "tuple", data := .seq #[u, u2] } := (sb.2 _ (Nat.ne_of_gt hzl)).trans hT
    have new : ObjOk X.prog X.w (upd H s.heap.objs.size (.tup [x, y])) h'' s.heap.objs.size (.tup [x, y]) :=
      ⟨by show 2 ≤ sizeLine; decide, [u, u2], .cons ru (.cons ru2 .nil), ⟨_, hT2, rfl, _, rfl⟩⟩
    have I1 : Inv X pins σ (upd H s.heap.objs.size (.tup [x, y])) { s with heap := h'' } :=
      I.turnedNew (t' := s.toks) (ch := [z, TI, TO, i1, i2]) (fun c o hb q => (sb.2 c (fun q' => hb (by simp [q']))).trans (hk c o (fun q' => hb (by simp [q'])) (fun q' => hb (by simp [q'])) (fun q' => hb (by simp [q'])) (fun q' => hb (by simp [q'])) q)) hf (Nat.le_refl _) new
    refine ⟨.ref s.heap.objs.size, _, I1, rfl, ⟨_, x, y, rfl, I.hok.fresh (Nat.le_refl _), rfl, fun l hl => by rw [seq_inj I hl hqx]; exact hx, fun l hl => by rw [seq_inj I hl hqy]; exact hy⟩, ⟨z'', ?_, ⟨u, u2, ?_⟩, ?_, ?_⟩, fun c hcm => ?_⟩
    · exact (sb.2 _ D.TIz).trans (hk _ _ D.TIz D.TITO D.TIi1 D.TIi2 hTI)
    · exact (sb.2 _ D.TOz).trans TO'
    · exact n1.at fun o q => (sb.2 _ D.i1z).trans q
    · exact n2.at fun o q => (sb.2 _ D.i2z).trans q
    · have hlt : c < s.heap.objs.size := by
        have e' : c = z ∨ c = TI ∨ c = TO ∨ c = i1 ∨ c = i2 := by simpa using hcm
        rcases e' with q | q | q | q | q
        · rw [q]; exact hzl
        · rw [q]; exact Heap.lt_size hTI
        · rw [q]; exact Heap.lt_size hTO
        · rw [q]; exact m1.lt
        · rw [q]; exact m2.lt
      rw [upd_ne (Nat.ne_of_lt hlt)]
      exact (hf c hcm).1
  done := by
    intro X hP hw hK hc i pins s σ H E I hf st hg
    subst hP hw hK
    obtain ⟨hz, hTI, ⟨x0, y0, hTO⟩, m1, m2⟩ := st
    obtain ⟨xs, ys, hqx, hqy, hend⟩ := hg
    obtain ⟨its, rv, p, _⟩ := seq_of I hqx
    obtain ⟨its2, rv2, p2, _⟩ := seq_of I hqy
    have l1 := rv.length
    have l2 := rv2.length
    have he : its.toArray[i]? = none ∨ its2.toArray[i]? = none := by
      rcases hend with q | q
      · exact .inl (by simp; omega)
      · exact .inr (by simp; omega)
    exact pyNext_end (I.ok.hd hc) D hz hTI hTO m1 m2 p p2 he fun h' hk => ⟨rfl, I.turnedL (t' := s.toks) (ch := [z, TI, TO, i1, i2]) (fun c o hb q =>
      hk c o (fun q' => hb (by simp [q'])) (fun q' => hb (by simp [q'])) (fun q' => hb (by simp [q'])) (fun q' => hb (by simp [q'])) q) hf⟩
  self := fun A i s Q E st h => wpAny_pyIter_zip st.1 h
def iZipB (b1 b2 : Bool) (K : PySem.W.Frag) (ta : TA) : TI := fun σ H R => ta σ H fun vs H1 => ∃ a b xs ys, vs = [.ref a, .ref b] ∧ SqB b1 K H1 a xs ∧ SqB b2 K H1 b ys ∧ R (ItzB b1 b2 K a b) H1
theorem pi_zipB {X : Cx} {b1 b2 : Bool} {e e2 : Expr} {ta : TA} {p pos tpos : Pos} {elts : List Expr} {kk : Nat} (hg : Gl X "zip") (hm : X.mg "zip" = none) (ha : PA X [e, e2] ta)
    (hs : starEach [e, e2] X.env = (false, eval e X.env) :: starEach [e2] X.env := by rfl) (hpl : (backTo pos (starEach [e2] X.env)).any (·.1) = false := by rfl) :
    PI X (.Tuple elts kk tpos) (.Call (.Name "zip" p) [e, e2] [] pos) (iZipB b1 b2 X.K ta) := by
  refine ⟨fun pins s σ H R I h => ?_⟩
  refine Call_ (ld_blt I hg hm PyProof.Rows.boot_zip (PyProof.Rows.callWith_type1 (thn (ha.run pos pins s σ H _ I h) fun us s1 ⟨vs, H1, I1, r1, q1⟩ => ?_) hs hpl))
  obtain ⟨a, b, xs, ys, ex, hqx, hqy, q⟩ := q1
  subst ex
  cases r1 with
  | cons r rr =>
    cases rr with
    | cons r' rr =>
      cases rr
      cases r
      cases r'
      obtain ⟨its, rv, p1, la⟩ := seq_of I1 hqx
      obtain ⟨its2, rv2, p2, lb⟩ := seq_of I1 hqy
      refine call_zipB p1 p2 fun h' hz hTI hTO m1 m2 hsz hk => wpAny_pyIter_zip hz ?_
      have I2 : Inv X pins σ H1 { s1 with heap := h' } := I1.kept (t' := s1.toks) hk
      refine ⟨s1.heap.objs.size + 4, [s1.heap.objs.size + 4, s1.heap.objs.size + 2, s1.heap.objs.size + 3, s1.heap.objs.size, s1.heap.objs.size + 1], _, _, H1, rfl, I2, turn_zipB (PySem.W.ktu_apart s1.heap.objs.size a b la lb), ⟨hz, hTI, ⟨_, _, hTO⟩, m1, m2⟩, fun c hcm => ?_, q⟩
      have hle : s1.heap.objs.size ≤ c := by
        have e' : c = s1.heap.objs.size + 4 ∨ c = s1.heap.objs.size + 2 ∨ c = s1.heap.objs.size + 3 ∨ c = s1.heap.objs.size ∨ c = s1.heap.objs.size + 1 := by simpa using hcm
        rcases e' with z | z | z | z | z
        · rw [z]; exact Nat.le_add_right _ _
        · rw [z]; exact Nat.le_add_right _ _
        · rw [z]; exact Nat.le_add_right _ _
        · rw [z]; exact Nat.le_refl _
        · rw [z]; exact Nat.le_add_right _ _
      exact I1.fpOk hle (I1.hok.fresh hle)
end ZB
namespace T
open PySem PySem.Spec PyProof.Rows L2
theorem SqB.mono {b : Bool} {K : Fr} {H H' : Hp} {a : Addr} {xs : List V} (e : Le H H') (h : ZB.SqB b K H a xs) : ZB.SqB b K H' a xs := by
  cases b with
  | true => exact SqT.mono e h
  | false => exact SqL.mono e h
theorem itok_zipB {α β : Type} {b1 b2 : Bool} {K : Fr} {D1 : Hp} {A : Dt α} {B : Dt β} {xs : List α} {ys : List β} {p q : Addr} {vs ws : List L2.V} (h1 : ZB.SqB b1 K D1 p vs) (h2 : Paired (A.rep K D1) xs vs) (g1 : ZB.SqB b2 K D1 q ws) (g2 : Paired (B.rep K D1) ys ws) : ItOk K (ZB.ItzB b1 b2 K p q) D1 (tRec2 A B) (xs.zip ys) := fun i H D e1 e2 => by
  have hS : ZB.SqB b1 K H p vs := SqB.mono (e1.trans e2) h1
  have gS : ZB.SqB b2 K H q ws := SqB.mono (e1.trans e2) g1
  refine ⟨fun x hx => ?_, fun hl => ⟨vs, ws, hS, gS, by rw [← h2.length, ← g2.length]; rw [List.length_zip] at hl; omega⟩⟩
  obtain ⟨a, b⟩ := x
  rw [List.getElem?_zip_eq_some] at hx
  obtain ⟨x1, x2⟩ := hx
  obtain ⟨v, q1, q2⟩ := Paired.get h2 x1
  obtain ⟨w, r1, r2⟩ := Paired.get g2 x2
  refine ⟨⟨vs, ws, v, w, hS, gS, q1, r1⟩, fun u H' ⟨T', y, z, eu, hT, eH, yy, zz⟩ => ?_⟩
  subst eu; subst eH
  cases (q1.symm.trans (yy vs hS) : some v = some y)
  cases (r1.symm.trans (zz ws gS) : some w = some z)
  exact ⟨upd D T' (.tup [v, w]), Ext.laid e2 hT, T', _, _, rfl, .inl (.inl upd_same), A.mono (Same.upd (e2.free hT)) (A.mono e1 q2), B.mono (Same.upd (e2.free hT)) (B.mono e1 r2)⟩
section
variable {X : Cx} {G : Ctx} {Γ : Vw} {α β : Type} {a b : Expr} {pos : Pos}
theorem I_zipTL {A : Dt α} {B : Dt β} {ra : M (List α)} {rb : M (List β)} {p tpos : Pos} {elts : List Expr} {kk : Nat} (hm : X.mg "zip" = none) (ha : ET X G Γ a (dat (tRow A)) ra) (hb : ET X G Γ b (dat (tLst B)) rb) (hg : Gl X "zip" := by rfl)
    (hs : starEach [a, b] X.env = (false, eval a X.env) :: starEach [b] X.env := by rfl) (hs2 : starEach [b] X.env = (false, eval b X.env) :: starEach [] X.env := by rfl) (hpl : (backTo pos (starEach [b] X.env)).any (·.1) = false := by rfl) :
    ITR X G Γ (.Tuple elts kk tpos) (.Call (.Name "zip" p) [a, b] [] pos) (tRec2 A B) (ra.bind fun x => rb.bind fun y => ok (x.zip y)) := fun w =>
  (ZB.pi_zipB (b1 := true) (b2 := false) hg hm (pa_cons (ha w) (pa_cons (hb w) pa_nil hs2) hs) hs hpl).weak fun σ H Q ⟨H0, D0, D, os, hr, x, hx, hp⟩ => by
    rcases bind_some hx with ⟨xs, rfl, hf⟩ | ⟨e, rfl, rfl⟩
    · rcases bind_some hf with ⟨ys, rfl, hf⟩ | ⟨e, rfl, rfl⟩
      · cases hf
        exact ⟨H0, D0, D, os, hr, _, rfl, fun v H' D' fp e ⟨_, p, vs, r1, r2, r3⟩ f => ⟨H0, D0, D', os, hr.grow e, _, rfl, fun v2 H2 D2 fp2 e2 ⟨_, p2, ws, s1, s2, s3⟩ f2 =>
          ⟨p, p2, vs, ws, by rw [r1, s1], SqT.mono (e.dh.trans e2.h) r2, SqL.of (e2.dh _ _ s2), hp _ H2 D2 (e.trans e2) (itok_zipB (b1 := true) (b2 := false) (SqT.mono e2.d r2) (A.monos e2.d r3) (SqL.of s2) s3)⟩⟩⟩
      · exact ⟨H0, D0, D, os, hr, _, rfl, fun v H' D' fp e ⟨_, r1⟩ f => ⟨H0, D0, D', os, hr.grow e, _, rfl, hp⟩⟩
    · exact ⟨H0, D0, D, os, hr, _, rfl, hp⟩
end
end T
namespace K09Law
open PySem PySem.Spec PyProof.Rows L2 T
set_option maxRecDepth 100000
set_option maxHeartbeats 4000000
def topS (i : Nat) : Stmt := PySem.Challenge.pw_ringhouse_k09_split_known.main.body.getD i (.Pass ⟨0, 0, 0, 0⟩)
abbrev s_cut : Stmt := topS 5
abbrev s_turned : Stmt := topS 8
abbrev s_mod_poly : Stmt := topS 10
abbrev s_mod_parted : Stmt := topS 11
abbrev s_mod_at : Stmt := topS 12
abbrev s_pair_of : Stmt := topS 14
abbrev s_rootless : Stmt := topS 15
abbrev s_split_by : Stmt := topS 16
abbrev s_stays : Stmt := topS 17
abbrev s__law_mixed : Stmt := topS 19
abbrev s__law_draws : Stmt := topS 20
abbrev s__law_primes : Stmt := topS 21
abbrev s__law_prime : Stmt := topS 22
abbrev s__law_cell : Stmt := topS 23
abbrev s__law_mod_places : Stmt := topS 24
abbrev s__law_cut : Stmt := topS 25
abbrev s__law_mod_times : Stmt := topS 26
abbrev s__law_written : Stmt := topS 27
abbrev s__law_far : Stmt := topS 28
abbrev s__law_whole : Stmt := topS 29
abbrev s__law_is_poly : Stmt := topS 30
abbrev s__law_is_mod : Stmt := topS 31
abbrev s__law_due : Stmt := topS 32
abbrev s__law_refused : Stmt := topS 33
abbrev s_law : Stmt := topS 34
def tis_NoPrime : List (Str × Bool) := [("RingError", false), ("NoPrime", true), ("NotTwo", false)]
def tis_NotTwo : List (Str × Bool) := [("RingError", false), ("NoPrime", false), ("NotTwo", true)]
def tis_ValueError : List (Str × Bool) := [("RingError", true), ("NoPrime", true), ("NotTwo", true)]
def tbl_NoPrime : List (Str × Bool) := [("RingError", false), ("NoPrime", true), ("NotTwo", false)]
def tbl_RingError : List (Str × Bool) := [("RingError", true), ("NoPrime", true), ("NotTwo", true)]
abbrev N_cut : List Str := ["row", "many"]
abbrev N_turned : List Str := ["a", "p", "one", "two", "first", "second", "part"]
abbrev N_mod_poly : List Str := ["row", "p", "place"]
abbrev N_mod_parted : List Str := ["a", "b", "p", "left", "by", "degree", "back", "quotient", "at", "part", "j"]
abbrev N_mod_at : List Str := ["f", "x", "p", "value", "place"]
abbrev N_pair_of : List Str := ["left", "p", "low", "one", "two", "three", "b", "d", "a"]
abbrev N_rootless : List Str := ["left", "p", "pair", "g"]
abbrev N_split_by : List Str := ["poly", "p", "left", "parts", "low", "often"]
abbrev N_stays : List Str := ["poly", "p", "parts"]
abbrev N__law_mixed : List Str := ["_law_cell_here", "_law_k", "_law_prime_here", "_law_far_here"]
abbrev N__law_draws : List Str := ["_law_cell_here", "_law_widths", "_law_prime_here", "_law_left", "_law_found", "_law_k"]
abbrev N__law_primes : List Str := ["_law_n", "_law_d"]
abbrev N__law_prime : List Str := ["_law_cell_here", "_law_prime_here", "_law_found"]
abbrev N__law_cell : List Str := ["_law_script", "_law_k"]
abbrev N__law_mod_places : List Str := ["_law_cell_here", "_law_many", "_law_p", "_law_prime_here"]
abbrev N__law_cut : List Str := ["_law_row", "_law_many"]
abbrev N__law_mod_times : List Str := ["_law_f", "_law_g", "_law_p", "_law_raw", "_law_i", "_law_j"]
abbrev N__law_written : List Str := ["_law_places", "_law_p", "_law_cell_here", "_law_prime_here", "_law_found", "_law_far_here", "_law_place", "_law_more"]
abbrev N__law_far : List Str := ["_law_cell_here", "_law_parts", "_law_most", "_law_prime_here", "_law_found", "_law_far_here", "_law_part"]
abbrev N__law_whole : List Str := ["_law_found"]
abbrev N__law_is_poly : List Str := ["_law_found", "_law_place"]
abbrev N__law_is_mod : List Str := ["_law_found", "_law_p", "_law_place"]
abbrev N__law_due : List Str := ["_law_p", "_law_r", "_law_s", "_law_e", "_law_u", "_law_ways", "_law_lows", "_law_rows", "_law_sides", "_law_v", "_law_low"]
abbrev N__law_refused : List Str := ["_law_poly", "_law_p", "_law_marks", "_law_e"]
abbrev N_law : List Str := ["_law_script", "_law_p", "_law_rows", "_law_way", "_law_ways", "_law_r", "_law_s", "_law_e", "_law_u", "_law_h", "_law_raw", "_law_factor", "_law_poly", "_law_far_here", "_law_bad", "_law_due_here", "_law_found", "_law_told", "_law_row"]
def c_PRIMES : (List Int) := [2, 3, 5, 7, 11, 13, 17, 19, 23, 29, 31, 37, 41, 43, 47, 53, 59, 61, 67, 71, 73, 79, 83, 89, 97, 101, 103, 107, 109, 113, 127, 131, 137, 139, 149, 151, 157, 163, 167, 173, 179, 181, 191, 193, 197, 199]
/-! ### mirrors -/
/-! ### walks -/
structure Facts (K : Fr) (mg : Str → Option Value) : Prop where
  d_cut : DefAt K mg "cut" s_cut
  d_turned : DefAt K mg "turned" s_turned
  d_mod_poly : DefAt K mg "mod_poly" s_mod_poly
  d_mod_parted : DefAt K mg "mod_parted" s_mod_parted
  d_mod_at : DefAt K mg "mod_at" s_mod_at
  d_pair_of : DefAt K mg "pair_of" s_pair_of
  d_rootless : DefAt K mg "rootless" s_rootless
  d_split_by : DefAt K mg "split_by" s_split_by
  d_stays : DefAt K mg "stays" s_stays
  d__law_mixed : DefAt K mg "_law_mixed" s__law_mixed
  d__law_draws : DefAt K mg "_law_draws" s__law_draws
  d__law_primes : DefAt K mg "_law_primes" s__law_primes
  d__law_prime : DefAt K mg "_law_prime" s__law_prime
  d__law_cell : DefAt K mg "_law_cell" s__law_cell
  d__law_mod_places : DefAt K mg "_law_mod_places" s__law_mod_places
  d__law_cut : DefAt K mg "_law_cut" s__law_cut
  d__law_mod_times : DefAt K mg "_law_mod_times" s__law_mod_times
  d__law_written : DefAt K mg "_law_written" s__law_written
  d__law_far : DefAt K mg "_law_far" s__law_far
  d__law_whole : DefAt K mg "_law_whole" s__law_whole
  d__law_is_poly : DefAt K mg "_law_is_poly" s__law_is_poly
  d__law_is_mod : DefAt K mg "_law_is_mod" s__law_is_mod
  d__law_due : DefAt K mg "_law_due" s__law_due
  d__law_refused : DefAt K mg "_law_refused" s__law_refused
  d_law : DefAt K mg "law" s_law
  x_NoPrime : XPl K mg "NoPrime"
  sub_NoPrime : XSub K mg "NoPrime" tbl_NoPrime
  sub_RingError : XSub K mg "RingError" tbl_RingError
  isi_NoPrime : XIsi K mg "NoPrime" tis_NoPrime
  isi_NotTwo : XIsi K mg "NotTwo" tis_NotTwo
  isi_ValueError : XIsi K mg "ValueError" tis_ValueError
  n_abs : mg "abs" = none
  n_all : mg "all" = none
  n_bool : mg "bool" = none
  n_int : mg "int" = none
  n_isinstance : mg "isinstance" = none
  n_len : mg "len" = none
  n_list : mg "list" = none
  n_range : mg "range" = none
  n_reversed : mg "reversed" = none
  n_set : mg "set" = none
  n_sorted : mg "sorted" = none
  n_tuple : mg "tuple" = none
  n_zip : mg "zip" = none
  g_PRIMES : GlobD K mg "PRIMES" (tRow tInt) c_PRIMES
theorem facts_mk {K : Fr} {mg : Str → Option Value} {h : Heap} (X : K.In h) (G : h.Ns mainGlobals mg)
    {f0 : Addr} {oc0 kV0 doc0 pm0 cdv0 ct0 : Value} {od0 an0 : Option Addr} {sl0 : Array (Option Value)} (a0 : PySem.W.nsIn K mainGlobals "cut" = some (some (.ref f0))) (l0 : K.lookup f0 = some ⟨oc0, od0, .func (PySem.W.fnOf "cut" "cut" (defArgs s_cut) (defBody s_cut) (defScope s_cut) .none kV0 doc0 pm0 an0 cdv0 ct0), sl0⟩) (c0 : PySem.W.codeIn K cdv0 "cut" = true) (k0 : PySem.W.keepIn K (.ref f0) = true)
    {f1 : Addr} {oc1 kV1 doc1 pm1 cdv1 ct1 : Value} {od1 an1 : Option Addr} {sl1 : Array (Option Value)} (a1 : PySem.W.nsIn K mainGlobals "turned" = some (some (.ref f1))) (l1 : K.lookup f1 = some ⟨oc1, od1, .func (PySem.W.fnOf "turned" "turned" (defArgs s_turned) (defBody s_turned) (defScope s_turned) .none kV1 doc1 pm1 an1 cdv1 ct1), sl1⟩) (c1 : PySem.W.codeIn K cdv1 "turned" = true) (k1 : PySem.W.keepIn K (.ref f1) = true)
    {f2 : Addr} {oc2 kV2 doc2 pm2 cdv2 ct2 : Value} {od2 an2 : Option Addr} {sl2 : Array (Option Value)} (a2 : PySem.W.nsIn K mainGlobals "mod_poly" = some (some (.ref f2))) (l2 : K.lookup f2 = some ⟨oc2, od2, .func (PySem.W.fnOf "mod_poly" "mod_poly" (defArgs s_mod_poly) (defBody s_mod_poly) (defScope s_mod_poly) .none kV2 doc2 pm2 an2 cdv2 ct2), sl2⟩) (c2 : PySem.W.codeIn K cdv2 "mod_poly" = true) (k2 : PySem.W.keepIn K (.ref f2) = true)
    {f3 : Addr} {oc3 kV3 doc3 pm3 cdv3 ct3 : Value} {od3 an3 : Option Addr} {sl3 : Array (Option Value)} (a3 : PySem.W.nsIn K mainGlobals "mod_parted" = some (some (.ref f3))) (l3 : K.lookup f3 = some ⟨oc3, od3, .func (PySem.W.fnOf "mod_parted" "mod_parted" (defArgs s_mod_parted) (defBody s_mod_parted) (defScope s_mod_parted) .none kV3 doc3 pm3 an3 cdv3 ct3), sl3⟩) (c3 : PySem.W.codeIn K cdv3 "mod_parted" = true) (k3 : PySem.W.keepIn K (.ref f3) = true)
    {f4 : Addr} {oc4 kV4 doc4 pm4 cdv4 ct4 : Value} {od4 an4 : Option Addr} {sl4 : Array (Option Value)} (a4 : PySem.W.nsIn K mainGlobals "mod_at" = some (some (.ref f4))) (l4 : K.lookup f4 = some ⟨oc4, od4, .func (PySem.W.fnOf "mod_at" "mod_at" (defArgs s_mod_at) (defBody s_mod_at) (defScope s_mod_at) .none kV4 doc4 pm4 an4 cdv4 ct4), sl4⟩) (c4 : PySem.W.codeIn K cdv4 "mod_at" = true) (k4 : PySem.W.keepIn K (.ref f4) = true)
    {f5 : Addr} {oc5 kV5 doc5 pm5 cdv5 ct5 : Value} {od5 an5 : Option Addr} {sl5 : Array (Option Value)} (a5 : PySem.W.nsIn K mainGlobals "pair_of" = some (some (.ref f5))) (l5 : K.lookup f5 = some ⟨oc5, od5, .func (PySem.W.fnOf "pair_of" "pair_of" (defArgs s_pair_of) (defBody s_pair_of) (defScope s_pair_of) .none kV5 doc5 pm5 an5 cdv5 ct5), sl5⟩) (c5 : PySem.W.codeIn K cdv5 "pair_of" = true) (k5 : PySem.W.keepIn K (.ref f5) = true)
    {f6 : Addr} {oc6 kV6 doc6 pm6 cdv6 ct6 : Value} {od6 an6 : Option Addr} {sl6 : Array (Option Value)} (a6 : PySem.W.nsIn K mainGlobals "rootless" = some (some (.ref f6))) (l6 : K.lookup f6 = some ⟨oc6, od6, .func (PySem.W.fnOf "rootless" "rootless" (defArgs s_rootless) (defBody s_rootless) (defScope s_rootless) .none kV6 doc6 pm6 an6 cdv6 ct6), sl6⟩) (c6 : PySem.W.codeIn K cdv6 "rootless" = true) (k6 : PySem.W.keepIn K (.ref f6) = true)
    {f7 : Addr} {oc7 kV7 doc7 pm7 cdv7 ct7 : Value} {od7 an7 : Option Addr} {sl7 : Array (Option Value)} (a7 : PySem.W.nsIn K mainGlobals "split_by" = some (some (.ref f7))) (l7 : K.lookup f7 = some ⟨oc7, od7, .func (PySem.W.fnOf "split_by" "split_by" (defArgs s_split_by) (defBody s_split_by) (defScope s_split_by) .none kV7 doc7 pm7 an7 cdv7 ct7), sl7⟩) (c7 : PySem.W.codeIn K cdv7 "split_by" = true) (k7 : PySem.W.keepIn K (.ref f7) = true)
    {f8 : Addr} {oc8 kV8 doc8 pm8 cdv8 ct8 : Value} {od8 an8 : Option Addr} {sl8 : Array (Option Value)} (a8 : PySem.W.nsIn K mainGlobals "stays" = some (some (.ref f8))) (l8 : K.lookup f8 = some ⟨oc8, od8, .func (PySem.W.fnOf "stays" "stays" (defArgs s_stays) (defBody s_stays) (defScope s_stays) .none kV8 doc8 pm8 an8 cdv8 ct8), sl8⟩) (c8 : PySem.W.codeIn K cdv8 "stays" = true) (k8 : PySem.W.keepIn K (.ref f8) = true)
    {f9 : Addr} {oc9 kV9 doc9 pm9 cdv9 ct9 : Value} {od9 an9 : Option Addr} {sl9 : Array (Option Value)} (a9 : PySem.W.nsIn K mainGlobals "_law_mixed" = some (some (.ref f9))) (l9 : K.lookup f9 = some ⟨oc9, od9, .func (PySem.W.fnOf "_law_mixed" "_law_mixed" (defArgs s__law_mixed) (defBody s__law_mixed) (defScope s__law_mixed) .none kV9 doc9 pm9 an9 cdv9 ct9), sl9⟩) (c9 : PySem.W.codeIn K cdv9 "_law_mixed" = true) (k9 : PySem.W.keepIn K (.ref f9) = true)
    {f10 : Addr} {oc10 kV10 doc10 pm10 cdv10 ct10 : Value} {od10 an10 : Option Addr} {sl10 : Array (Option Value)} (a10 : PySem.W.nsIn K mainGlobals "_law_draws" = some (some (.ref f10))) (l10 : K.lookup f10 = some ⟨oc10, od10, .func (PySem.W.fnOf "_law_draws" "_law_draws" (defArgs s__law_draws) (defBody s__law_draws) (defScope s__law_draws) .none kV10 doc10 pm10 an10 cdv10 ct10), sl10⟩) (c10 : PySem.W.codeIn K cdv10 "_law_draws" = true) (k10 : PySem.W.keepIn K (.ref f10) = true)
    {f11 : Addr} {oc11 kV11 doc11 pm11 cdv11 ct11 : Value} {od11 an11 : Option Addr} {sl11 : Array (Option Value)} (a11 : PySem.W.nsIn K mainGlobals "_law_primes" = some (some (.ref f11))) (l11 : K.lookup f11 = some ⟨oc11, od11, .func (PySem.W.fnOf "_law_primes" "_law_primes" (defArgs s__law_primes) (defBody s__law_primes) (defScope s__law_primes) .none kV11 doc11 pm11 an11 cdv11 ct11), sl11⟩) (c11 : PySem.W.codeIn K cdv11 "_law_primes" = true) (k11 : PySem.W.keepIn K (.ref f11) = true)
    {f12 : Addr} {oc12 kV12 doc12 pm12 cdv12 ct12 : Value} {od12 an12 : Option Addr} {sl12 : Array (Option Value)} (a12 : PySem.W.nsIn K mainGlobals "_law_prime" = some (some (.ref f12))) (l12 : K.lookup f12 = some ⟨oc12, od12, .func (PySem.W.fnOf "_law_prime" "_law_prime" (defArgs s__law_prime) (defBody s__law_prime) (defScope s__law_prime) .none kV12 doc12 pm12 an12 cdv12 ct12), sl12⟩) (c12 : PySem.W.codeIn K cdv12 "_law_prime" = true) (k12 : PySem.W.keepIn K (.ref f12) = true)
    {f13 : Addr} {oc13 kV13 doc13 pm13 cdv13 ct13 : Value} {od13 an13 : Option Addr} {sl13 : Array (Option Value)} (a13 : PySem.W.nsIn K mainGlobals "_law_cell" = some (some (.ref f13))) (l13 : K.lookup f13 = some ⟨oc13, od13, .func (PySem.W.fnOf "_law_cell" "_law_cell" (defArgs s__law_cell) (defBody s__law_cell) (defScope s__law_cell) .none kV13 doc13 pm13 an13 cdv13 ct13), sl13⟩) (c13 : PySem.W.codeIn K cdv13 "_law_cell" = true) (k13 : PySem.W.keepIn K (.ref f13) = true)
    {f14 : Addr} {oc14 kV14 doc14 pm14 cdv14 ct14 : Value} {od14 an14 : Option Addr} {sl14 : Array (Option Value)} (a14 : PySem.W.nsIn K mainGlobals "_law_mod_places" = some (some (.ref f14))) (l14 : K.lookup f14 = some ⟨oc14, od14, .func (PySem.W.fnOf "_law_mod_places" "_law_mod_places" (defArgs s__law_mod_places) (defBody s__law_mod_places) (defScope s__law_mod_places) .none kV14 doc14 pm14 an14 cdv14 ct14), sl14⟩) (c14 : PySem.W.codeIn K cdv14 "_law_mod_places" = true) (k14 : PySem.W.keepIn K (.ref f14) = true)
    {f15 : Addr} {oc15 kV15 doc15 pm15 cdv15 ct15 : Value} {od15 an15 : Option Addr} {sl15 : Array (Option Value)} (a15 : PySem.W.nsIn K mainGlobals "_law_cut" = some (some (.ref f15))) (l15 : K.lookup f15 = some ⟨oc15, od15, .func (PySem.W.fnOf "_law_cut" "_law_cut" (defArgs s__law_cut) (defBody s__law_cut) (defScope s__law_cut) .none kV15 doc15 pm15 an15 cdv15 ct15), sl15⟩) (c15 : PySem.W.codeIn K cdv15 "_law_cut" = true) (k15 : PySem.W.keepIn K (.ref f15) = true)
    {f16 : Addr} {oc16 kV16 doc16 pm16 cdv16 ct16 : Value} {od16 an16 : Option Addr} {sl16 : Array (Option Value)} (a16 : PySem.W.nsIn K mainGlobals "_law_mod_times" = some (some (.ref f16))) (l16 : K.lookup f16 = some ⟨oc16, od16, .func (PySem.W.fnOf "_law_mod_times" "_law_mod_times" (defArgs s__law_mod_times) (defBody s__law_mod_times) (defScope s__law_mod_times) .none kV16 doc16 pm16 an16 cdv16 ct16), sl16⟩) (c16 : PySem.W.codeIn K cdv16 "_law_mod_times" = true) (k16 : PySem.W.keepIn K (.ref f16) = true)
    {f17 : Addr} {oc17 kV17 doc17 pm17 cdv17 ct17 : Value} {od17 an17 : Option Addr} {sl17 : Array (Option Value)} (a17 : PySem.W.nsIn K mainGlobals "_law_written" = some (some (.ref f17))) (l17 : K.lookup f17 = some ⟨oc17, od17, .func (PySem.W.fnOf "_law_written" "_law_written" (defArgs s__law_written) (defBody s__law_written) (defScope s__law_written) .none kV17 doc17 pm17 an17 cdv17 ct17), sl17⟩) (c17 : PySem.W.codeIn K cdv17 "_law_written" = true) (k17 : PySem.W.keepIn K (.ref f17) = true)
    {f18 : Addr} {oc18 kV18 doc18 pm18 cdv18 ct18 : Value} {od18 an18 : Option Addr} {sl18 : Array (Option Value)} (a18 : PySem.W.nsIn K mainGlobals "_law_far" = some (some (.ref f18))) (l18 : K.lookup f18 = some ⟨oc18, od18, .func (PySem.W.fnOf "_law_far" "_law_far" (defArgs s__law_far) (defBody s__law_far) (defScope s__law_far) .none kV18 doc18 pm18 an18 cdv18 ct18), sl18⟩) (c18 : PySem.W.codeIn K cdv18 "_law_far" = true) (k18 : PySem.W.keepIn K (.ref f18) = true)
    {f19 : Addr} {oc19 kV19 doc19 pm19 cdv19 ct19 : Value} {od19 an19 : Option Addr} {sl19 : Array (Option Value)} (a19 : PySem.W.nsIn K mainGlobals "_law_whole" = some (some (.ref f19))) (l19 : K.lookup f19 = some ⟨oc19, od19, .func (PySem.W.fnOf "_law_whole" "_law_whole" (defArgs s__law_whole) (defBody s__law_whole) (defScope s__law_whole) .none kV19 doc19 pm19 an19 cdv19 ct19), sl19⟩) (c19 : PySem.W.codeIn K cdv19 "_law_whole" = true) (k19 : PySem.W.keepIn K (.ref f19) = true)
    {f20 : Addr} {oc20 kV20 doc20 pm20 cdv20 ct20 : Value} {od20 an20 : Option Addr} {sl20 : Array (Option Value)} (a20 : PySem.W.nsIn K mainGlobals "_law_is_poly" = some (some (.ref f20))) (l20 : K.lookup f20 = some ⟨oc20, od20, .func (PySem.W.fnOf "_law_is_poly" "_law_is_poly" (defArgs s__law_is_poly) (defBody s__law_is_poly) (defScope s__law_is_poly) .none kV20 doc20 pm20 an20 cdv20 ct20), sl20⟩) (c20 : PySem.W.codeIn K cdv20 "_law_is_poly" = true) (k20 : PySem.W.keepIn K (.ref f20) = true)
    {f21 : Addr} {oc21 kV21 doc21 pm21 cdv21 ct21 : Value} {od21 an21 : Option Addr} {sl21 : Array (Option Value)} (a21 : PySem.W.nsIn K mainGlobals "_law_is_mod" = some (some (.ref f21))) (l21 : K.lookup f21 = some ⟨oc21, od21, .func (PySem.W.fnOf "_law_is_mod" "_law_is_mod" (defArgs s__law_is_mod) (defBody s__law_is_mod) (defScope s__law_is_mod) .none kV21 doc21 pm21 an21 cdv21 ct21), sl21⟩) (c21 : PySem.W.codeIn K cdv21 "_law_is_mod" = true) (k21 : PySem.W.keepIn K (.ref f21) = true)
    {f22 : Addr} {oc22 kV22 doc22 pm22 cdv22 ct22 : Value} {od22 an22 : Option Addr} {sl22 : Array (Option Value)} (a22 : PySem.W.nsIn K mainGlobals "_law_due" = some (some (.ref f22))) (l22 : K.lookup f22 = some ⟨oc22, od22, .func (PySem.W.fnOf "_law_due" "_law_due" (defArgs s__law_due) (defBody s__law_due) (defScope s__law_due) .none kV22 doc22 pm22 an22 cdv22 ct22), sl22⟩) (c22 : PySem.W.codeIn K cdv22 "_law_due" = true) (k22 : PySem.W.keepIn K (.ref f22) = true)
    {f23 : Addr} {oc23 kV23 doc23 pm23 cdv23 ct23 : Value} {od23 an23 : Option Addr} {sl23 : Array (Option Value)} (a23 : PySem.W.nsIn K mainGlobals "_law_refused" = some (some (.ref f23))) (l23 : K.lookup f23 = some ⟨oc23, od23, .func (PySem.W.fnOf "_law_refused" "_law_refused" (defArgs s__law_refused) (defBody s__law_refused) (defScope s__law_refused) .none kV23 doc23 pm23 an23 cdv23 ct23), sl23⟩) (c23 : PySem.W.codeIn K cdv23 "_law_refused" = true) (k23 : PySem.W.keepIn K (.ref f23) = true)
    {f24 : Addr} {oc24 kV24 doc24 pm24 cdv24 ct24 : Value} {od24 an24 : Option Addr} {sl24 : Array (Option Value)} (a24 : PySem.W.nsIn K mainGlobals "law" = some (some (.ref f24))) (l24 : K.lookup f24 = some ⟨oc24, od24, .func (PySem.W.fnOf "law" "law" (defArgs s_law) (defBody s_law) (defScope s_law) .none kV24 doc24 pm24 an24 cdv24 ct24), sl24⟩) (c24 : PySem.W.codeIn K cdv24 "law" = true) (k24 : PySem.W.keepIn K (.ref f24) = true)
    {C0 : Addr} (ca0 : PySem.W.nsIn K mainGlobals "NoPrime" = some (some (.ref C0)))
    (cb0 : PySem.W.subIn K (.ref C0) (.type "BaseException") = some true) (cy0 : PySem.W.typeIn K (.ref C0) = some (.type "type")) (ck0 : PySem.W.keepIn K (.ref C0) = true)
    (cx0 : PySem.W.excIn K C0 [.type "ValueError", .type "Exception", .type "BaseException", .type "object"] "ValueError.__new__" = true)
    (cd0 : PySem.W.hasDictIn K C0 = true)
    {C1 : Addr} (ca1 : PySem.W.nsIn K mainGlobals "NotTwo" = some (some (.ref C1)))
    (cb1 : PySem.W.subIn K (.ref C1) (.type "BaseException") = some true) (cy1 : PySem.W.typeIn K (.ref C1) = some (.type "type")) (ck1 : PySem.W.keepIn K (.ref C1) = true)
    {C2 : Addr} (ca2 : PySem.W.nsIn K mainGlobals "RingError" = some (some (.ref C2)))
    (cb2 : PySem.W.subIn K (.ref C2) (.type "BaseException") = some true) (cy2 : PySem.W.typeIn K (.ref C2) = some (.type "type")) (ck2 : PySem.W.keepIn K (.ref C2) = true)
    (cd2 : PySem.W.hasDictIn K C2 = true)
    (su2_0 : PySem.W.subIn K (.ref C2) (.ref C0) = some false)
    (su0_0 : PySem.W.subIn K (.ref C0) (.ref C0) = some true)
    (su1_0 : PySem.W.subIn K (.ref C1) (.ref C0) = some false)
    (su2_2 : PySem.W.subIn K (.ref C2) (.ref C2) = some true)
    (su0_2 : PySem.W.subIn K (.ref C0) (.ref C2) = some true)
    (su1_2 : PySem.W.subIn K (.ref C1) (.ref C2) = some true)
    (ec2 : ExcC K C2)
    (ec0 : ExcC K C0)
    (ec1 : ExcC K C1)
    (ki2_NoPrime : PySem.W.kitOne K (.ref C2) (.ref C0) = some false)
    (ki0_NoPrime : PySem.W.kitOne K (.ref C0) (.ref C0) = some true)
    (ki1_NoPrime : PySem.W.kitOne K (.ref C1) (.ref C0) = some false)
    (ki2_NotTwo : PySem.W.kitOne K (.ref C2) (.ref C1) = some false)
    (ki0_NotTwo : PySem.W.kitOne K (.ref C0) (.ref C1) = some false)
    (ki1_NotTwo : PySem.W.kitOne K (.ref C1) (.ref C1) = some true)
    (ki2_ValueError : PySem.W.kitOne K (.ref C2) (.type "ValueError") = some true)
    (ki0_ValueError : PySem.W.kitOne K (.ref C0) (.type "ValueError") = some true)
    (ki1_ValueError : PySem.W.kitOne K (.ref C1) (.type "ValueError") = some true)
    (zVE : PySem.W.nsIn K mainGlobals "ValueError" = some none)
    (z0 : PySem.W.nsIn K mainGlobals "abs" = some none)
    (z1 : PySem.W.nsIn K mainGlobals "all" = some none)
    (z2 : PySem.W.nsIn K mainGlobals "bool" = some none)
    (z3 : PySem.W.nsIn K mainGlobals "int" = some none)
    (z4 : PySem.W.nsIn K mainGlobals "isinstance" = some none)
    (z5 : PySem.W.nsIn K mainGlobals "len" = some none)
    (z6 : PySem.W.nsIn K mainGlobals "list" = some none)
    (z7 : PySem.W.nsIn K mainGlobals "range" = some none)
    (z8 : PySem.W.nsIn K mainGlobals "reversed" = some none)
    (z9 : PySem.W.nsIn K mainGlobals "set" = some none)
    (z10 : PySem.W.nsIn K mainGlobals "sorted" = some none)
    (z11 : PySem.W.nsIn K mainGlobals "tuple" = some none)
    (z12 : PySem.W.nsIn K mainGlobals "zip" = some none)
    {cA0 : Addr} {cod0 : Option Addr} {cits0 : Array Value} {cn0 : Nat} {csl0 : Array (Option Value)} (q0 : PySem.W.nsIn K mainGlobals "PRIMES" = some (some (.ref cA0))) (ql0 : K.lookup cA0 = some ⟨.type "tuple", cod0, .seq cits0 cn0, csl0⟩) (qi0 : isIntsB cits0.toList c_PRIMES = true)
    : Facts K mg where
  d_cut := defAt_mk X G a0 l0 c0 k0
  d_turned := defAt_mk X G a1 l1 c1 k1
  d_mod_poly := defAt_mk X G a2 l2 c2 k2
  d_mod_parted := defAt_mk X G a3 l3 c3 k3
  d_mod_at := defAt_mk X G a4 l4 c4 k4
  d_pair_of := defAt_mk X G a5 l5 c5 k5
  d_rootless := defAt_mk X G a6 l6 c6 k6
  d_split_by := defAt_mk X G a7 l7 c7 k7
  d_stays := defAt_mk X G a8 l8 c8 k8
  d__law_mixed := defAt_mk X G a9 l9 c9 k9
  d__law_draws := defAt_mk X G a10 l10 c10 k10
  d__law_primes := defAt_mk X G a11 l11 c11 k11
  d__law_prime := defAt_mk X G a12 l12 c12 k12
  d__law_cell := defAt_mk X G a13 l13 c13 k13
  d__law_mod_places := defAt_mk X G a14 l14 c14 k14
  d__law_cut := defAt_mk X G a15 l15 c15 k15
  d__law_mod_times := defAt_mk X G a16 l16 c16 k16
  d__law_written := defAt_mk X G a17 l17 c17 k17
  d__law_far := defAt_mk X G a18 l18 c18 k18
  d__law_whole := defAt_mk X G a19 l19 c19 k19
  d__law_is_poly := defAt_mk X G a20 l20 c20 k20
  d__law_is_mod := defAt_mk X G a21 l21 c21 k21
  d__law_due := defAt_mk X G a22 l22 c22 k22
  d__law_refused := defAt_mk X G a23 l23 c23 k23
  d_law := defAt_mk X G a24 l24 c24 k24
  x_NoPrime := xpl_mk X G ca0 cx0 ck0 cb0 cy0
  sub_NoPrime := xsub_mk X G ca0 cb0 cd0 cy0 (all_cons (sub_row X G ca2 su2_0) (all_cons (sub_row X G ca0 su0_0) (all_cons (sub_row X G ca1 su1_0) all_nil)))
  sub_RingError := xsub_mk X G ca2 cb2 cd2 cy2 (all_cons (sub_row X G ca2 su2_2) (all_cons (sub_row X G ca0 su0_2) (all_cons (sub_row X G ca1 su1_2) all_nil)))
  isi_NoPrime := xisi_own X G ca0 (all_cons (isi_row X G ca2 ec2 ki2_NoPrime) (all_cons (isi_row X G ca0 ec0 ki0_NoPrime) (all_cons (isi_row X G ca1 ec1 ki1_NoPrime) all_nil)))
  isi_NotTwo := xisi_own X G ca1 (all_cons (isi_row X G ca2 ec2 ki2_NotTwo) (all_cons (isi_row X G ca0 ec0 ki0_NotTwo) (all_cons (isi_row X G ca1 ec1 ki1_NotTwo) all_nil)))
  isi_ValueError := xisi_blt (PySem.W.mg_none_of X G zVE) (by decide) (by decide +kernel) (all_cons (isi_row X G ca2 ec2 ki2_ValueError) (all_cons (isi_row X G ca0 ec0 ki0_ValueError) (all_cons (isi_row X G ca1 ec1 ki1_ValueError) all_nil)))
  n_abs := PySem.W.mg_none_of X G z0
  n_all := PySem.W.mg_none_of X G z1
  n_bool := PySem.W.mg_none_of X G z2
  n_int := PySem.W.mg_none_of X G z3
  n_isinstance := PySem.W.mg_none_of X G z4
  n_len := PySem.W.mg_none_of X G z5
  n_list := PySem.W.mg_none_of X G z6
  n_range := PySem.W.mg_none_of X G z7
  n_reversed := PySem.W.mg_none_of X G z8
  n_set := PySem.W.mg_none_of X G z9
  n_sorted := PySem.W.mg_none_of X G z10
  n_tuple := PySem.W.mg_none_of X G z11
  n_zip := PySem.W.mg_none_of X G z12
  g_PRIMES := globD_ints X G q0 ql0 qi0
def LawX : Prop := ∀ {w : World} {K : Fr} {mg : Str → Option Value} {fa : Addr} (_ : Facts K mg) (_ : mg "law" = some (.ref fa)),
    ∃ fd : FuncData, (∀ (s : Shared) (u : Value), BindsTo s fd ⟨[u], []⟩ [("_law_script", u)]) ∧ ∀ base : Heap, K.In base → base.Ns mainGlobals mg → FnOk (PySem.Challenge.rw_ringhouse_k09_split_known).prog w K mg base (L2.CX (PySem.Challenge.rw_ringhouse_k09_split_known).prog w) 7 fa fd ["_law_script"] (spLaw K)
end K09Law
open PySem PySem.W PyProof.Rows
set_option maxRecDepth 100000 in
set_option maxHeartbeats 0 in
open_top K09Law.top for PySem.Challenge.rw_ringhouse_k09_split_known
set_option maxRecDepth 100000 in
set_option maxHeartbeats 0 in
theorem K09Law.end_of (hX : K09Law.LawX) : PySem.Challenge.rw_ringhouse_k09_split_known.Holds := by
  refine K09Law.top ?_
  k_fill
  refine L2.walk_of (l := PySem.Challenge.rw_ringhouse_k09_split_known) (n := 63) (k := 7) (x := "_law_script") (CX := fun w => L2.CX (PySem.Challenge.rw_ringhouse_k09_split_known).prog w) (sp := fun w => T.spLaw _) rfl (by decide) rfl ⟨rfl, by decide, by decide⟩ (fun w h Y => PySem.W.kIn_of Y) ?F (fun _ _ a ns hl _ hS => ⟨a, ns, rfl, hS, hl, fun _ => rfl⟩) (fun _ => T.cx_no)
  case F =>
    intro w mg fa h KX G hmg
    refine' hX (K09Law.facts_mk KX G ?a0 ?l0 ?c0 ?k0 ?a1 ?l1 ?c1 ?k1 ?a2 ?l2 ?c2 ?k2 ?a3 ?l3 ?c3 ?k3 ?a4 ?l4 ?c4 ?k4 ?a5 ?l5 ?c5 ?k5 ?a6 ?l6 ?c6 ?k6 ?a7 ?l7 ?c7 ?k7 ?a8 ?l8 ?c8 ?k8 ?a9 ?l9 ?c9 ?k9 ?a10 ?l10 ?c10 ?k10 ?a11 ?l11 ?c11 ?k11 ?a12 ?l12 ?c12 ?k12 ?a13 ?l13 ?c13 ?k13 ?a14 ?l14 ?c14 ?k14 ?a15 ?l15 ?c15 ?k15 ?a16 ?l16 ?c16 ?k16 ?a17 ?l17 ?c17 ?k17 ?a18 ?l18 ?c18 ?k18 ?a19 ?l19 ?c19 ?k19 ?a20 ?l20 ?c20 ?k20 ?a21 ?l21 ?c21 ?k21 ?a22 ?l22 ?c22 ?k22 ?a23 ?l23 ?c23 ?k23 ?a24 ?l24 ?c24 ?k24 ?ca0 ?cb0 ?cy0 ?ck0 ?cx0 ?cd0 ?ca1 ?cb1 ?cy1 ?ck1 ?ca2 ?cb2 ?cy2 ?ck2 ?cd2 ?su2_0 ?su0_0 ?su1_0 ?su2_2 ?su0_2 ?su1_2 ?ec2 ?ec0 ?ec1 ?ki2_NoPrime ?ki0_NoPrime ?ki1_NoPrime ?ki2_NotTwo ?ki0_NotTwo ?ki1_NotTwo ?ki2_ValueError ?ki0_ValueError ?ki1_ValueError ?zVE ?z0 ?z1 ?z2 ?z3 ?z4 ?z5 ?z6 ?z7 ?z8 ?z9 ?z10 ?z11 ?z12 ?q0 ?ql0 ?qi0) hmg
    (case a0 => k_is); (case l0 => k_is); (case c0 => k_is); (case k0 => k_is); (case a1 => k_is); (case l1 => k_is); (case c1 => k_is); (case k1 => k_is); (case a2 => k_is); (case l2 => k_is); (case c2 => k_is); (case k2 => k_is); (case a3 => k_is); (case l3 => k_is); (case c3 => k_is); (case k3 => k_is); (case a4 => k_is); (case l4 => k_is); (case c4 => k_is); (case k4 => k_is); (case a5 => k_is); (case l5 => k_is); (case c5 => k_is); (case k5 => k_is); (case a6 => k_is); (case l6 => k_is); (case c6 => k_is); (case k6 => k_is); (case a7 => k_is); (case l7 => k_is); (case c7 => k_is); (case k7 => k_is); (case a8 => k_is); (case l8 => k_is); (case c8 => k_is); (case k8 => k_is); (case a9 => k_is); (case l9 => k_is); (case c9 => k_is); (case k9 => k_is); (case a10 => k_is); (case l10 => k_is); (case c10 => k_is); (case k10 => k_is); (case a11 => k_is); (case l11 => k_is); (case c11 => k_is); (case k11 => k_is); (case a12 => k_is); (case l12 => k_is); (case c12 => k_is); (case k12 => k_is); (case a13 => k_is); (case l13 => k_is); (case c13 => k_is); (case k13 => k_is); (case a14 => k_is); (case l14 => k_is); (case c14 => k_is); (case k14 => k_is); (case a15 => k_is); (case l15 => k_is); (case c15 => k_is); (case k15 => k_is); (case a16 => k_is); (case l16 => k_is); (case c16 => k_is); (case k16 => k_is); (case a17 => k_is); (case l17 => k_is); (case c17 => k_is); (case k17 => k_is); (case a18 => k_is); (case l18 => k_is); (case c18 => k_is); (case k18 => k_is); (case a19 => k_is); (case l19 => k_is); (case c19 => k_is); (case k19 => k_is); (case a20 => k_is); (case l20 => k_is); (case c20 => k_is); (case k20 => k_is); (case a21 => k_is); (case l21 => k_is); (case c21 => k_is); (case k21 => k_is); (case a22 => k_is); (case l22 => k_is); (case c22 => k_is); (case k22 => k_is); (case a23 => k_is); (case l23 => k_is); (case c23 => k_is); (case k23 => k_is); (case a24 => k_is); (case l24 => k_is); (case c24 => k_is); (case k24 => k_is); (case ca0 => k_is); (case cb0 => k_is); (case cy0 => k_is); (case ck0 => k_is); (case cx0 => k_exc); (case cd0 => k_is); (case ca1 => k_is); (case cb1 => k_is); (case cy1 => k_is); (case ck1 => k_is); (case ca2 => k_is); (case cb2 => k_is); (case cy2 => k_is); (case ck2 => k_is); (case cd2 => k_is); (case su2_0 => (first | rfl | k_is)); (case su0_0 => (first | rfl | k_is)); (case su1_0 => (first | rfl | k_is)); (case su2_2 => (first | rfl | k_is)); (case su0_2 => (first | rfl | k_is)); (case su1_2 => (first | rfl | k_is)); (case ec2 => (constructor <;> first | rfl | k_is | kernel_rfl)); (case ec0 => (constructor <;> first | rfl | k_is | kernel_rfl)); (case ec1 => (constructor <;> first | rfl | k_is | kernel_rfl)); (case ki2_NoPrime => (first | rfl | k_is | kernel_rfl)); (case ki0_NoPrime => (first | rfl | k_is | kernel_rfl)); (case ki1_NoPrime => (first | rfl | k_is | kernel_rfl)); (case ki2_NotTwo => (first | rfl | k_is | kernel_rfl)); (case ki0_NotTwo => (first | rfl | k_is | kernel_rfl)); (case ki1_NotTwo => (first | rfl | k_is | kernel_rfl)); (case ki2_ValueError => (first | rfl | k_is | kernel_rfl)); (case ki0_ValueError => (first | rfl | k_is | kernel_rfl)); (case ki1_ValueError => (first | rfl | k_is | kernel_rfl)); (case zVE => k_is); (case z0 => k_is); (case z1 => k_is); (case z2 => k_is); (case z3 => k_is); (case z4 => k_is); (case z5 => k_is); (case z6 => k_is); (case z7 => k_is); (case z8 => k_is); (case z9 => k_is); (case z10 => k_is); (case z11 => k_is); (case z12 => k_is); (case q0 => k_is); (case ql0 => k_is); (case qi0 => kernel_rfl)
set_option maxRecDepth 100000
set_option maxHeartbeats 1000000
namespace T
open PySem PySem.Spec PyProof.Rows L2
/-! ### the mathematics of mirrors: loops -/
section
variable {α β γ C ρ : Type}
theorem loopM_nil (f : C → α → M C) (c : C) : loopM f c [] = ok c := rfl
theorem loopM_cons (f : C → α → M C) (c : C) (x : α) (xs : List α) : loopM f c (x :: xs) = (f c x).bind fun c' => loopM f c' xs := rfl
/-- a loop by an invariant over its turns -/
theorem loopM_inv {f : C → α → M C} (P : Nat → C → Prop) {xs : List α} {c : C} (h0 : P 0 c) (hs : ∀ (i : Nat) c x, xs[i]? = some x → P i c → ∃ c', f c x = ok c' ∧ P (i + 1) c') :
    ∃ c', loopM f c xs = ok c' ∧ P xs.length c' := by
  induction xs generalizing c P with
  | nil => exact ⟨c, rfl, h0⟩
  | cons x xs ih =>
    obtain ⟨c1, e1, p1⟩ := hs 0 c x (by simp) h0
    obtain ⟨c2, e2, p2⟩ := ih (fun i => P (i + 1)) p1 (fun i c y hy => hs (i + 1) c y (by simpa using hy))
    refine ⟨c2, ?_, p2⟩
    rw [loopM_cons, e1, bind_ok, e2]
/-- a loop whose turns are known: a fold -/
theorem loopM_fold {f : C → α → M C} {g : C → α → C} {xs : List α} {c : C} (P : C → Prop) (h0 : P c) (hs : ∀ c x, x ∈ xs → P c → f c x = ok (g c x) ∧ P (g c x)) :
    loopM f c xs = ok (xs.foldl g c) ∧ P (xs.foldl g c) := by
  induction xs generalizing c with
  | nil => exact ⟨rfl, h0⟩
  | cons x xs ih =>
    obtain ⟨e, p⟩ := hs c x List.mem_cons_self h0
    rw [loopM_cons, e, bind_ok, List.foldl_cons]
    exact ih p fun c y hy => hs c y (List.mem_cons_of_mem _ hy)
/-- a while by an invariant and a measure -/
theorem whileM_inv {t : C → M Bool} {b : C → M C} (P : C → Prop) (μ : C → Nat) (hs : ∀ c, P c → (t c = ok false) ∨ (t c = ok true ∧ ∃ c', b c = ok c' ∧ P c' ∧ μ c' < μ c)) {c : C} (h0 : P c) :
    ∃ c', whileM t b c = ok c' ∧ P c' ∧ t c' = ok false := by
  generalize hn : μ c = n
  induction n using Nat.strongRecOn generalizing c with
  | _ n ih =>
    rcases hs c h0 with h | ⟨h, c1, e1, p1, l1⟩
    · exact ⟨c, by rw [whileM_eq, h]; rfl, h0, h⟩
    · obtain ⟨c2, e2, p2, q2⟩ := ih (μ c1) (hn ▸ l1) p1 rfl
      refine ⟨c2, ?_, p2, q2⟩
      rw [whileM_eq, h, bind_ok, if_pos rfl, e1, bind_ok, e2]
theorem mapC_ok {f : α → M β} {g : α → β} {xs : List α} (h : ∀ x ∈ xs, f x = ok (g x)) (hl : xs.length ≤ sizeLine) : mapC f xs = ok (xs.map g) := by
  have : ∀ ys : List α, (∀ x ∈ ys, f x = ok (g x)) → compG (fun _ => ok true) f ys = ok (ys.map g) := by
    intro ys
    induction ys with
    | nil => intro _; rfl
    | cons y ys ih =>
      intro h
      show (noX (ok true)).bind _ = _
      rw [noX_ok, bind_ok, if_pos rfl, h y List.mem_cons_self, noX_ok, bind_ok, ih fun x hx => h x (List.mem_cons_of_mem _ hx)]
      rfl
  unfold mapC compL
  rw [this xs h, bind_ok]
  exact grd_pos (by rw [List.length_map]; exact hl) _
theorem compL_ok {t : α → M Bool} {p : α → Bool} {f : α → M β} {g : α → β} {xs : List α} (ht : ∀ x ∈ xs, t x = ok (p x)) (h : ∀ x ∈ xs, p x = true → f x = ok (g x)) (hl : xs.length ≤ sizeLine) : compL t f xs = ok ((xs.filter p).map g) := by
  have : ∀ ys : List α, (∀ x ∈ ys, t x = ok (p x)) → (∀ x ∈ ys, p x = true → f x = ok (g x)) → compG t f ys = ok ((ys.filter p).map g) := by
    intro ys
    induction ys with
    | nil => intro _ _; rfl
    | cons y ys ih =>
      intro ht h
      show (noX (t y)).bind _ = _
      rw [ht y List.mem_cons_self, noX_ok, bind_ok, ih (fun x hx => ht x (List.mem_cons_of_mem _ hx)) fun x hx => h x (List.mem_cons_of_mem _ hx)]
      by_cases e : p y = true
      · rw [if_pos e, h y List.mem_cons_self e, noX_ok, bind_ok, bind_ok, List.filter_cons_of_pos e]
        rfl
      · rw [if_neg e, List.filter_cons_of_neg e]
  unfold compL
  rw [this xs ht h, bind_ok]
  refine grd_pos ?_ _
  rw [List.length_map]
  exact Nat.le_trans (List.length_filter_le _ _) hl
end
/-! ### numbers -/
theorem log2_le {x A : Nat} (h : x ≤ A) : x.log2 ≤ A.log2 := by
  by_cases hx : x = 0
  · subst hx; exact Nat.zero_le _
  · have hA : A ≠ 0 := by omega
    have h1 : A < 2 ^ (A.log2 + 1) := (Nat.log2_lt hA).mp (Nat.lt_succ_self _)
    have h2 : x.log2 < A.log2 + 1 := (Nat.log2_lt hx).mpr (by omega)
    omega
theorem pmul_left {x y : Int} (hx : x.natAbs < 2 ^ 64) : pmul x y = ok (x * y) := grd_pos (.inl (.inl hx)) _
theorem pmul_right {x y : Int} (hy : y.natAbs < 2 ^ 64) : pmul x y = ok (x * y) := grd_pos (.inl (.inr hy)) _
theorem pmod_ok {x y : Int} (h : y ≠ 0) : pmod x y = ok (x.fmod y) := grd_pos h _
theorem pmod_pos {x y : Int} (h : 0 < y) : pmod x y = ok (x % y) := by rw [pmod_ok (by omega), Int.fmod_eq_emod_of_nonneg _ (by omega)]
theorem pdiv_ok {x y : Int} (h : y ≠ 0) (h2 : y.natAbs.log2 < 9000) : pdiv x y = ok (x.fdiv y) := grd_pos ⟨h, h2⟩ _
/-! ### lists -/
section
variable {α : Type}
theorem pget_nat {xs : List α} {i : Nat} (h : i < xs.length) : pget xs (i : Int) = ok xs[i] := by
  unfold pget
  rw [atI_nat (List.getElem?_eq_getElem h)]
theorem pget_some {xs : List α} {i : Nat} {x : α} (h : xs[i]? = some x) : pget xs (i : Int) = ok x := by
  unfold pget
  rw [atI_nat h]
theorem papp_ok {xs : List α} {x : α} (h : xs.length < 16777216) : papp xs x = ok (xs ++ [x]) := grd_pos (by rw [sizeLine_eq]; exact h) _
theorem pcat_ok {xs ys : List α} (h : xs.length + ys.length ≤ 16777216) : pcat xs ys = ok (xs ++ ys) := grd_pos (by rw [sizeLine_eq]; exact h) _
theorem prep_ok {x : α} {k : Nat} (h : k ≤ 16777216) : prep [x] (k : Int) = ok (List.replicate k x) := by
  have e : (List.replicate k [x]).flatten = List.replicate k x := by
    induction k with
    | zero => rfl
    | succ k ih => rw [List.replicate_succ, List.flatten_cons, ih (by omega), List.replicate_succ]; rfl
  unfold prep
  rw [grd_pos, Int.toNat_natCast, e]
  rw [Int.toNat_natCast, sizeLine_eq]
  refine ⟨by omega, by omega, ?_⟩
  simp only [List.length_cons, List.length_nil]
  omega
theorem cutL_from {xs : List α} (n : Nat) (h : n ≤ xs.length) : cutL xs (some (n : Int)) none = xs.drop n := by
  unfold cutL
  rw [show HT.sIx xs.length 0 (some (n : Int)) = min n xs.length from HT.sIx_nat xs.length 0 n, HT.sIx_none, Nat.min_eq_left h]
  exact List.take_of_length_le (by rw [List.length_drop]; omega)
theorem sizeLineE : sizeLine = 16777216 := sizeLine_eq
end
theorem range_get {n i : Nat} {x : Int} (h : (rangeL 0 n)[i]? = some x) : x = (i : Int) ∧ i < n := by
  rw [rangeL_get] at h
  by_cases e : i < n
  · rw [if_pos e] at h
    have := Option.some.inj h
    exact ⟨by omega, e⟩
  · rw [if_neg e] at h; cases h
/-! ### the draws that all laws share -/
noncomputable def m_mixed (cell_here1 : Int) (k2 : Int) (prime3 : Int) : M Int :=
  (M.bind (M.bind (M.bind (M.bind (M.bind (M.bind (pmul (7 * k2) k2) fun u5 => ok (cell_here1 + u5)) fun u6 => ok (u6 + (13 * k2))) fun u7 => ok (u7 + 5)) fun u8 => ok (u8 * 48271)) fun u9 => ok (u9 % 2147483647)) fun far_here4 => (M.bind (M.bind (pmul far_here4 far_here4) fun u11 => ok (u11 % 2147483629)) fun far_here10 => (pmod (far_here10 * 39373) prime3)))
noncomputable def m_draws (cell_here1 : Int) (widths2 : (List Int)) (prime3 : Int) : M (List Int) :=
  (M.bind (ok 0) fun left4 => (M.bind (M.bind (ok (decide (1000000000000000000 ≤ cell_here1))) fun z5 => if z5 = true then (M.bind (ok (cell_here1 - 1000000000000000000)) fun left6 => ok (left6)) else ok (left4)) fun left7 => (M.bind (ok ([] : List Int)) fun found8 => (M.bind (M.bind (prangeI (List.length widths2 : Int)) fun xs => loopM (fun (s9 : Int × (List Int)) k10 => (M.bind (ok (decide (1 < s9.1))) fun z11 => if z11 = true then (M.bind (M.bind (M.bind (pget widths2 k10) fun u12 => (pmod s9.1 u12)) fun u13 => (papp s9.2 u13)) fun found14 => (M.bind (M.bind (pget widths2 k10) fun u16 => (pdiv s9.1 u16)) fun left15 => ok (left15, found14))) else (M.bind (M.bind (M.bind (m_mixed cell_here1 k10 prime3) fun u17 => M.bind (pget widths2 k10) fun u18 => (pmod u17 u18)) fun u19 => (papp s9.2 u19)) fun found20 => ok (s9.1, found20)))) (left7, found8) xs) fun s21 => ok s21.2))))
noncomputable def m_far (cell_here1 : Int) (parts2 : Int) (most3 : Int) (prime4 : Int) : M Int :=
  (M.bind (M.bind (M.bind (prep [100000000] parts2) fun u6 => (pcat [6] u6)) fun u7 => (m_draws cell_here1 u7 prime4)) fun found5 => (M.bind (ok 0) fun far_here8 => (M.bind (M.bind (ok (cutL found5 (some 1) none)) fun xs => loopM (fun (far_here9 : Int) part10 => (M.bind (ok ((far_here9 * 100000000) + part10)) fun far_here11 => ok (far_here11))) (far_here8) xs) fun far_here12 => (M.bind (M.bind (pget found5 0) fun u13 => ok (decide (u13 = 0))) fun z14 => if z14 = true then (ok 0) else (M.bind (M.bind (pget found5 0) fun u15 => ok (decide (u15 = 1))) fun z16 => if z16 = true then (ok ((far_here12 % 41) - 20)) else (M.bind (pmod far_here12 ((2 * most3) + 1)) fun u17 => ok (u17 - most3)))))))
noncomputable def m_cell (script1 : (List Int)) (k2 : Int) : M Int :=
  (M.bind (ok (decide ((List.length script1 : Int) = 0))) fun z3 => if z3 = true then (ok (7919 * (k2 + 1))) else (M.bind (ok (decide (k2 < (List.length script1 : Int)))) fun z4 => if z4 = true then (pget script1 k2) else (M.bind (M.bind (pmod k2 (List.length script1 : Int)) fun u5 => (pget script1 u5)) fun u6 => ok (u6 + (104729 * k2)))))
theorem mixed_ok (cell : Int) {k prime : Int} (h0 : 0 ≤ k) (h1 : k ≤ 1000000) (hp : 0 < prime) : ∃ v, m_mixed cell k prime = ok v ∧ 0 ≤ v ∧ v < prime := by
  unfold m_mixed
  rw [pmul_right (show k.natAbs < 2 ^ 64 by omega)]
  simp only [bind_okS]
  generalize hf : (cell + 7 * k * k + 13 * k + 5) * 48271 % 2147483647 = f
  have h2 : 0 ≤ f := by rw [← hf]; exact Int.emod_nonneg _ (by decide)
  have h3 : f < 2147483647 := by rw [← hf]; exact Int.emod_lt_of_pos _ (by decide)
  rw [pmul_left (show f.natAbs < 2 ^ 64 by omega), bind_okS, bind_okS, pmod_pos hp]
  exact ⟨_, rfl, Int.emod_nonneg _ (by omega), Int.emod_lt_of_pos _ hp⟩
/-- the draws: as many as widths, each from 0 on and below its width -/
def Drawn (ws rs : List Int) : Prop := rs.length = ws.length ∧ ∀ (i : Nat) (w r : Int), ws[i]? = some w → rs[i]? = some r → 0 ≤ r ∧ r < w
def Widths (ws : List Int) : Prop := ws.length ≤ 100000 ∧ ∀ w ∈ ws, 0 < w ∧ w.natAbs.log2 < 9000
theorem Drawn.snoc {ws rs : List Int} {i : Nat} {w r : Int} (hl : rs.length = i) (hw : ws[i]? = some w) (h0 : 0 ≤ r) (h1 : r < w) (h : ∀ (j : Nat) (w r : Int), ws[j]? = some w → rs[j]? = some r → 0 ≤ r ∧ r < w) :
    ∀ (j : Nat) (w r' : Int), ws[j]? = some w → (rs ++ [r])[j]? = some r' → 0 ≤ r' ∧ r' < w := by
  intro j w' r' e1 e2
  by_cases hj : j < rs.length
  · rw [List.getElem?_append_left hj] at e2; exact h j w' r' e1 e2
  · rw [List.getElem?_append_right (by omega)] at e2
    by_cases hz : j - rs.length = 0
    · rw [hz] at e2
      have e3 : r = r' := by simpa using e2
      have hji : j = i := by omega
      subst hji
      rw [hw] at e1
      have e4 : w = w' := Option.some.inj e1
      subst e3; subst e4
      exact ⟨h0, h1⟩
    · have : j - rs.length = (j - rs.length - 1) + 1 := by omega
      rw [this] at e2
      simp at e2
theorem draws_ok (cell : Int) {ws : List Int} {prime : Int} (hw : Widths ws) (hp : 0 < prime) : ∃ rs, m_draws cell ws prime = ok rs ∧ Drawn ws rs := by
  unfold m_draws
  have hl := hw.1
  simp only [bind_okS, prangeI_nat (show ws.length < 2 ^ 62 by omega)]
  have hleft : ∃ l, (if decide (1000000000000000000 ≤ cell) = true then ok (cell - 1000000000000000000) else ok 0 : M Int) = ok l := by
    by_cases h : 1000000000000000000 ≤ cell
    · rw [if_pos (decide_eq_true h)]; exact ⟨_, rfl⟩
    · rw [if_neg (by simpa using h)]; exact ⟨_, rfl⟩
  obtain ⟨l0, e0⟩ := hleft
  rw [e0, bind_ok]
  have hs : ∀ (i : Nat) (c : Int × List Int) (x : Int), (rangeL 0 ws.length)[i]? = some x → (c.2.length = i ∧ ∀ (j : Nat) (w r : Int), ws[j]? = some w → c.2[j]? = some r → 0 ≤ r ∧ r < w) → ∃ c', (fun (s9 : Int × (List Int)) k10 => if decide (1 < s9.1) = true then (((pget ws k10).bind fun u12 => pmod s9.1 u12).bind fun u13 => papp s9.2 u13).bind fun found14 => ((pget ws k10).bind fun u16 => pdiv s9.1 u16).bind fun left15 => ok (left15, found14)
      else (((m_mixed cell k10 prime).bind fun u17 => (pget ws k10).bind fun u18 => pmod u17 u18).bind fun u19 => papp s9.2 u19).bind fun found20 => ok (s9.1, found20)) c x = ok c' ∧ (c'.2.length = i + 1 ∧ ∀ (j : Nat) (w r : Int), ws[j]? = some w → c'.2[j]? = some r → 0 ≤ r ∧ r < w) := by
    rintro i ⟨l, rs⟩ x hx ⟨h1, h2⟩
    obtain ⟨rfl, hi⟩ := range_get hx
    have h1 : rs.length = i := h1
    have hwi : ws[i]? = some ws[i] := List.getElem?_eq_getElem hi
    obtain ⟨w0, w1⟩ := hw.2 _ (List.getElem_mem hi)
    have happ : ∀ r, papp rs r = ok (rs ++ [r]) := fun r => papp_ok (by omega)
    dsimp only
    by_cases hl1 : 1 < l
    · rw [if_pos (decide_eq_true hl1), pget_nat hi, bind_ok, pmod_pos w0, bind_ok, happ, bind_ok, bind_ok, pdiv_ok (by omega) w1, bind_ok]
      exact ⟨_, rfl, by simp [h1], Drawn.snoc h1 hwi (Int.emod_nonneg _ (by omega)) (Int.emod_lt_of_pos _ w0) h2⟩
    · obtain ⟨v, e, v0, v1⟩ := mixed_ok cell (k := (i : Int)) (by omega) (by omega) hp
      rw [if_neg (by simpa using hl1), e, bind_ok, pget_nat hi, bind_ok, pmod_pos w0, bind_ok, happ, bind_ok]
      exact ⟨_, rfl, by simp [h1], Drawn.snoc h1 hwi (Int.emod_nonneg _ (by omega)) (Int.emod_lt_of_pos _ w0) h2⟩
  obtain ⟨c, e1, p1⟩ := loopM_inv (fun i (c : Int × List Int) => c.2.length = i ∧ ∀ (j : Nat) (w r : Int), ws[j]? = some w → c.2[j]? = some r → 0 ≤ r ∧ r < w) (c := (l0, [])) ⟨rfl, fun j w r _ z => by simp at z⟩ hs
  rw [e1, bind_ok]
  rw [rangeL_len] at p1
  exact ⟨c.2, rfl, p1.1, p1.2⟩
theorem Drawn.at {ws rs : List Int} (h : Drawn ws rs) {i : Nat} {w : Int} (hw : ws[i]? = some w) : ∃ r, rs[i]? = some r ∧ 0 ≤ r ∧ r < w := by
  obtain ⟨hi, e⟩ := List.getElem?_eq_some_iff.mp hw
  have hi' : i < rs.length := by rw [h.1]; exact hi
  exact ⟨rs[i], List.getElem?_eq_getElem hi', h.2 i w rs[i] hw (List.getElem?_eq_getElem hi')⟩
theorem Widths.of {ws : List Int} (h : (ws.length ≤ 100000 ∧ ws.all fun w => decide (0 < w) && decide (w.natAbs.log2 < 9000)) := by decide +kernel) : Widths ws :=
  ⟨h.1, fun w hw => by
    have := List.all_eq_true.mp h.2 w hw
    simpa using this⟩
theorem far_widths (k : Nat) (h : k ≤ 1000) : Widths ([6] ++ List.replicate k 100000000) := by
  refine ⟨by simp; omega, fun w hw => ?_⟩
  rcases List.mem_append.mp hw with z | z
  · have : w = 6 := by simpa using z
    subst this; decide
  · have := List.eq_of_mem_replicate z
    subst this; decide
theorem far_ok (cell : Int) {parts : Nat} {most prime : Int} (hk : parts ≤ 1000) (hm : 20 ≤ most) (hp : 0 < prime) : ∃ v, m_far cell (parts : Int) most prime = ok v ∧ -most ≤ v ∧ v ≤ most := by
  unfold m_far
  rw [prep_ok (by omega), bind_ok, pcat_ok (by simp; omega), bind_ok]
  obtain ⟨rs, e, hd⟩ := draws_ok cell (far_widths parts hk) hp
  rw [e, bind_ok, bind_ok, bind_ok]
  have hf : ∀ (xs : List Int) (c : Int), loopM (fun (far_here9 : Int) part10 => (M.bind (ok ((far_here9 * 100000000) + part10)) fun far_here11 => ok (far_here11))) c xs = ok (xs.foldl (fun a b => a * 100000000 + b) c) := fun xs c =>
    (loopM_fold (g := fun a b => a * 100000000 + b) (fun _ => True) trivial fun c x _ _ => ⟨rfl, trivial⟩).1
  rw [hf, bind_ok]
  obtain ⟨r, hr, r0, r1⟩ := hd.at (i := 0) (w := 6) rfl
  rw [show pget rs 0 = ok r from pget_some (i := 0) hr]
  simp only [bind_okS]
  by_cases h0 : r = 0
  · rw [if_pos (decide_eq_true h0)]
    exact ⟨0, rfl, by omega, by omega⟩
  · rw [if_neg (by simpa using h0)]
    by_cases h1 : r = 1
    · rw [if_pos (decide_eq_true h1)]
      refine ⟨_, rfl, ?_, ?_⟩ <;> omega
    · rw [if_neg (by simpa using h1), pmod_pos (by omega), bind_ok]
      generalize List.foldl (fun a b => a * 100000000 + b) 0 (cutL rs (some 1) none) = z
      have := Int.emod_nonneg z (show 2 * most + 1 ≠ 0 by omega)
      have := Int.emod_lt_of_pos z (show 0 < 2 * most + 1 by omega)
      exact ⟨_, rfl, by omega, by omega⟩
theorem cell_ok {script : List Int} {k : Int} (hl : script.length ≤ 63) (h0 : 0 ≤ k) : ∃ v, m_cell script k = ok v := by
  unfold m_cell
  simp only [bind_okS]
  by_cases h : (script.length : Int) = 0
  · rw [if_pos (decide_eq_true h)]; exact ⟨_, rfl⟩
  · rw [if_neg (by simpa using h)]
    by_cases h2 : k < script.length
    · rw [if_pos (decide_eq_true h2)]
      obtain ⟨n, rfl⟩ := Int.eq_ofNat_of_zero_le h0
      have : n < script.length := by omega
      exact ⟨_, pget_nat this⟩
    · rw [if_neg (by simpa using h2), pmod_pos (by omega), bind_ok]
      have hn := Int.emod_nonneg k (show (script.length : Int) ≠ 0 from h)
      have hlt := Int.emod_lt_of_pos k (show (0 : Int) < script.length by omega)
      obtain ⟨n, e⟩ := Int.eq_ofNat_of_zero_le hn
      rw [e] at hlt ⊢
      have : n < script.length := by omega
      rw [pget_nat this, bind_ok]
      exact ⟨_, rfl⟩
end T
set_option maxRecDepth 100000
namespace T
open PySem PySem.Spec PyProof.Rows L2
theorem mapC_ex {α β : Type} {f : α → M β} {P : α → β → Prop} {xs : List α} (h : ∀ x ∈ xs, ∃ y, f x = ok y ∧ P x y) (hl : xs.length ≤ 16777216) :
    ∃ ys, mapC f xs = ok ys ∧ ys.length = xs.length ∧ (∀ (i : Nat) x y, xs[i]? = some x → ys[i]? = some y → P x y) ∧ ∀ y ∈ ys, ∃ x ∈ xs, P x y := by
  have : ∀ ys : List α, (∀ x ∈ ys, ∃ y, f x = ok y ∧ P x y) → ∃ zs, compG (fun _ => ok true) f ys = ok zs ∧ zs.length = ys.length ∧ (∀ (i : Nat) x y, ys[i]? = some x → zs[i]? = some y → P x y) ∧ ∀ y ∈ zs, ∃ x ∈ ys, P x y := by
    intro ys
    induction ys with
    | nil => intro _; exact ⟨[], rfl, rfl, fun i x y h => by simp at h, fun y hy => nomatch hy⟩
    | cons a ys ih =>
      intro h
      obtain ⟨zs, e, l, g, m⟩ := ih fun x hx => h x (List.mem_cons_of_mem _ hx)
      obtain ⟨b, eb, pb⟩ := h a List.mem_cons_self
      refine ⟨b :: zs, ?_, by simp [l], fun i x y hx hy => ?_, fun y hy => ?_⟩
      · show (noX (ok true)).bind _ = _
        rw [noX_ok, bind_ok, if_pos rfl, eb, noX_ok, bind_ok, e]
        rfl
      · cases i with
        | zero => simp at hx hy; subst hx; subst hy; exact pb
        | succ i => exact g i x y (by simpa using hx) (by simpa using hy)
      · rcases List.mem_cons.mp hy with z | z
        · subst z; exact ⟨a, List.mem_cons_self, pb⟩
        · obtain ⟨x, hx, p⟩ := m y z
          exact ⟨x, List.mem_cons_of_mem _ hx, p⟩
  obtain ⟨ys, e, l, g, m⟩ := this xs h
  refine ⟨ys, ?_, l, g, m⟩
  unfold mapC compL
  rw [e, bind_ok]
  exact grd_pos (by rw [sizeLine_eq, l]; exact hl) _
theorem pset_nat {α : Type} {xs : List α} {i : Nat} {x : α} (h : i < xs.length) : pset xs (i : Int) x = ok (xs.set i x) := by
  unfold pset
  have e : ixN xs.length (i : Int) = some i := by
    unfold ixN
    rw [if_pos (by omega), if_pos (by omega)]; simp
  rw [e]
/-! ### small numbers -/
def Sm (k : Nat) (x : Int) : Prop := x.natAbs.log2 ≤ k
theorem mul_sm {x y : Int} {j k : Nat} (hx : Sm j x) (hy : Sm k y) (h : j + k < 1000000) : pmul x y = ok (x * y) := grd_pos (.inr (by unfold Sm at hx hy; omega)) _
theorem log2_mul (a b : Nat) : (a * b).log2 ≤ a.log2 + b.log2 + 1 := by
  by_cases ha : a = 0
  · subst ha; rw [Nat.zero_mul]; exact Nat.zero_le _
  by_cases hb : b = 0
  · subst hb; rw [Nat.mul_zero]; exact Nat.zero_le _
  have h1 : a < 2 ^ (a.log2 + 1) := (Nat.log2_lt ha).mp (Nat.lt_succ_self _)
  have h2 : b < 2 ^ (b.log2 + 1) := (Nat.log2_lt hb).mp (Nat.lt_succ_self _)
  have h3 : a * b < 2 ^ (a.log2 + 1) * 2 ^ (b.log2 + 1) := Nat.mul_lt_mul'' h1 h2
  rw [← Nat.pow_add] at h3
  have hab : a * b ≠ 0 := Nat.mul_ne_zero ha hb
  have := (Nat.log2_lt hab).mpr h3
  omega
theorem Sm.mul {x y : Int} {j k : Nat} (hx : Sm j x) (hy : Sm k y) : Sm (j + k + 1) (x * y) := by
  unfold Sm at *
  rw [Int.natAbs_mul]
  have := log2_mul x.natAbs y.natAbs
  omega
theorem Sm.of {x : Int} {A k : Nat} (h : x.natAbs ≤ A) (hk : A.log2 ≤ k := by decide +kernel) : Sm k x := Nat.le_trans (log2_le h) hk
end T
set_option maxRecDepth 100000
namespace T
open PySem PySem.Spec PyProof.Rows L2
/-! ### rows as polynomials -/
def co (xs : List Int) (t : Nat) : Int := (xs[t]?).getD 0
theorem co_nil (t : Nat) : co [] t = 0 := rfl
theorem co_zero (a : Int) (xs : List Int) : co (a :: xs) 0 = a := rfl
theorem co_succ (a : Int) (xs : List Int) (t : Nat) : co (a :: xs) (t + 1) = co xs t := by unfold co; simp
theorem co_get {xs : List Int} {t : Nat} (h : t < xs.length) : co xs t = xs[t] := by unfold co; simp [h]
theorem co_out {xs : List Int} {t : Nat} (h : xs.length ≤ t) : co xs t = 0 := by unfold co; simp [h]
theorem co_some {xs : List Int} {t : Nat} {x : Int} (h : xs[t]? = some x) : co xs t = x := by unfold co; rw [h]; rfl
theorem pget_co {xs : List Int} {t : Nat} (h : t < xs.length) : pget xs (t : Int) = ok (co xs t) := by rw [pget_nat h, co_get h]
theorem co_mem {xs : List Int} {t : Nat} (h : t < xs.length) : co xs t ∈ xs := by rw [co_get h]; exact List.getElem_mem h
theorem co_ext {xs ys : List Int} (hl : xs.length = ys.length) (h : ∀ t, co xs t = co ys t) : xs = ys := by
  apply List.ext_getElem hl
  intro i h1 h2
  have := h i
  rwa [co_get h1, co_get h2] at this
theorem co_set {xs : List Int} {i : Nat} {x : Int} (h : i < xs.length) (t : Nat) : co (xs.set i x) t = if t = i then x else co xs t := by
  unfold co
  by_cases e : t = i
  · subst e; rw [if_pos rfl, List.getElem?_set_self h]; rfl
  · rw [if_neg e, List.getElem?_set_ne (fun z => e z.symm)]
theorem co_append_l {xs ys : List Int} {t : Nat} (h : t < xs.length) : co (xs ++ ys) t = co xs t := by unfold co; rw [List.getElem?_append_left h]
theorem co_append_r {xs ys : List Int} {t : Nat} (h : xs.length ≤ t) : co (xs ++ ys) t = co ys (t - xs.length) := by unfold co; rw [List.getElem?_append_right h]
theorem co_rep0 (n t : Nat) : co (List.replicate n 0) t = 0 := by
  unfold co
  rw [List.getElem?_replicate]
  split <;> rfl
theorem co_take (xs : List Int) (m t : Nat) : co (xs.take m) t = if t < m then co xs t else 0 := by
  unfold co
  rw [List.getElem?_take]
  split <;> rfl
theorem co_map (xs : List Int) (f : Int → Int) (h0 : f 0 = 0) (t : Nat) : co (xs.map f) t = f (co xs t) := by
  unfold co
  rw [List.getElem?_map]
  cases xs[t]? with
  | none => exact h0.symm
  | some x => rfl
/-- the value at z -/
def ev : List Int → Int → Int
  | [], _ => 0
  | a :: t, z => a + z * ev t z
theorem ev_zero (z : Int) : ∀ {xs : List Int}, (∀ t, co xs t = 0) → ev xs z = 0
  | [], _ => rfl
  | a :: xs, h => by
    have h0 : a = 0 := h 0
    have h1 : ev xs z = 0 := ev_zero z fun t => by rw [← co_succ a]; exact h (t + 1)
    show a + z * ev xs z = 0
    rw [h0, h1]; simp
theorem ev_co (z : Int) : ∀ {xs ys : List Int}, (∀ t, co xs t = co ys t) → ev xs z = ev ys z
  | [], ys, h => (ev_zero z fun t => (h t).symm).symm
  | xs, [], h => ev_zero z h
  | a :: xs, b :: ys, h => by
    have h0 : a = b := h 0
    have h1 : ev xs z = ev ys z := ev_co z fun t => by rw [← co_succ a, ← co_succ b]; exact h (t + 1)
    show a + z * ev xs z = b + z * ev ys z
    rw [h0, h1]
/-! noughts at the end -/
def cutP : List Int → List Int
  | [] => []
  | a :: t => match cutP t with
    | [] => if a = 0 then [] else [a]
    | b :: l => a :: b :: l
theorem cutP_co : ∀ (xs : List Int) (t : Nat), co (cutP xs) t = co xs t
  | [], t => rfl
  | a :: xs, t => by
    have ih := cutP_co xs
    unfold cutP
    cases e : cutP xs with
    | nil =>
      rw [e] at ih
      by_cases h : a = 0
      · simp only [h, if_true]
        cases t with
        | zero => rfl
        | succ t => rw [co_succ, ← ih t]; rfl
      · simp only [h, if_false]
        cases t with
        | zero => rfl
        | succ t => rw [co_succ, co_succ, ← ih t]
    | cons b l =>
      rw [e] at ih
      cases t with
      | zero => rfl
      | succ t => rw [co_succ, co_succ]; exact ih t
def Cut (xs : List Int) : Prop := xs = [] ∨ ∃ a l, xs = l ++ [a] ∧ a ≠ 0
theorem cutP_cut : ∀ xs : List Int, Cut (cutP xs)
  | [] => .inl rfl
  | a :: xs => by
    have ih := cutP_cut xs
    unfold cutP
    cases e : cutP xs with
    | nil =>
      by_cases h : a = 0
      · simp only [h, if_true]; exact .inl rfl
      · simp only [h, if_false]; exact .inr ⟨a, [], rfl, h⟩
    | cons b l =>
      rw [e] at ih
      rcases ih with z | ⟨x, m, h1, h2⟩
      · cases z
      · exact .inr ⟨x, a :: m, by rw [List.cons_append, ← h1], h2⟩
theorem Cut.last {xs : List Int} (h : Cut xs) (hn : xs ≠ []) : co xs (xs.length - 1) ≠ 0 := by
  rcases h with z | ⟨a, l, rfl, ha⟩
  · exact absurd z hn
  · rw [List.length_append, co_append_r (by simp)]
    simp
    exact ha
theorem Cut.eq {xs ys : List Int} (h1 : Cut xs) (h2 : Cut ys) (h : ∀ t, co xs t = co ys t) : xs = ys := by
  have key : ∀ {xs ys : List Int}, Cut xs → (∀ t, co xs t = co ys t) → xs.length ≤ ys.length := fun {xs ys} h1 h => by
    by_cases hn : xs = []
    · subst hn; exact Nat.zero_le _
    · have := h1.last hn
      rw [h] at this
      have hp : 0 < xs.length := List.length_pos_iff.mpr hn
      by_cases hl : xs.length ≤ ys.length
      · exact hl
      · exact absurd (co_out (by omega)) this
  exact co_ext (Nat.le_antisymm (key h1 h) (key h2 fun t => (h t).symm)) h
theorem cutP_eq {xs ys : List Int} (h2 : Cut ys) (h : ∀ t, co xs t = co ys t) : cutP xs = ys := Cut.eq (cutP_cut xs) h2 fun t => (cutP_co xs t).trans (h t)
theorem cutP_len : ∀ xs : List Int, (cutP xs).length ≤ xs.length := fun xs => by
  by_cases hn : cutP xs = []
  · rw [hn]; exact Nat.zero_le _
  · have := (cutP_cut xs).last hn
    rw [cutP_co] at this
    have hp : 0 < (cutP xs).length := List.length_pos_iff.mpr hn
    by_cases hl : (cutP xs).length ≤ xs.length
    · exact hl
    · exact absurd (co_out (by omega)) this
theorem cutP_mem {xs : List Int} {x : Int} (h : x ∈ cutP xs) : x ∈ xs := by
  obtain ⟨i, hi⟩ := List.getElem?_of_mem h
  have h1 : i < (cutP xs).length := (List.getElem?_eq_some_iff.mp hi).1
  have := cutP_co xs i
  rw [co_some hi] at this
  rw [this]
  exact co_mem (Nat.lt_of_lt_of_le h1 (cutP_len xs))
theorem cutP_take {xs : List Int} {m : Nat} (hm : m ≤ xs.length) (h0 : ∀ t, m ≤ t → co xs t = 0) (h1 : m = 0 ∨ co xs (m - 1) ≠ 0) : cutP xs = xs.take m := by
  refine cutP_eq ?_ fun t => ?_
  · rcases h1 with rfl | h1
    · exact .inl (by simp)
    · by_cases hz : m = 0
      · subst hz; exact .inl (by simp)
      · refine .inr ⟨co xs (m - 1), xs.take (m - 1), ?_, h1⟩
        have e : xs.take m = xs.take (m - 1) ++ [xs[m - 1]] := by
          have := List.take_succ_eq_append_getElem (l := xs) (i := m - 1) (by omega)
          rwa [show m - 1 + 1 = m by omega] at this
        rw [e, co_get (by omega)]
  · rw [co_take]
    split
    · rfl
    · exact h0 t (by omega)
theorem cutL_to {α : Type} {xs : List α} {m : Nat} (h : m ≤ xs.length) : cutL xs none (some (m : Int)) = xs.take m := by
  unfold cutL
  rw [show HT.sIx xs.length xs.length (some (m : Int)) = min m xs.length from HT.sIx_nat xs.length xs.length m, HT.sIx_none, Nat.min_eq_left h, List.drop_zero, Nat.sub_zero]
noncomputable def m_cut (row1 : (List Int)) : M (List Int) :=
  (M.bind (ok (List.length row1 : Int)) fun many2 => (M.bind (whileM (fun (many3 : Int) => (M.bind (ok (decide (0 < many3))) fun z5 => if z5 = true then (M.bind (pget row1 (many3 - 1)) fun u4 => ok (decide (u4 = 0))) else ok false)) (fun (many3 : Int) => (M.bind (ok (many3 - 1)) fun many6 => ok (many6))) (many2)) fun many7 => (ok (cutL row1 none (some many7)))))
theorem cut_ok (xs : List Int) : m_cut xs = ok (cutP xs) := by
  unfold m_cut
  rw [bind_okS]
  obtain ⟨c, e, ⟨m, rfl, hm, h0⟩, ht⟩ := whileM_inv (t := fun (many3 : Int) => (M.bind (ok (decide (0 < many3))) fun z5 => if z5 = true then (M.bind (pget xs (many3 - 1)) fun u4 => ok (decide (u4 = 0))) else ok false)) (b := fun (many3 : Int) => (M.bind (ok (many3 - 1)) fun many6 => ok (many6)))
    (fun c => ∃ m : Nat, c = (m : Int) ∧ m ≤ xs.length ∧ ∀ t, m ≤ t → co xs t = 0) (fun c => c.toNat) (fun c ⟨m, hc, hm, h0⟩ => by
      subst hc
      rw [bind_okS]
      by_cases hz : m = 0
      · subst hz
        exact .inl (if_neg (by simp))
      · rw [if_pos (decide_eq_true (by omega)), show (m : Int) - 1 = ((m - 1 : Nat) : Int) by omega, pget_co (by omega), bind_ok]
        by_cases h1 : co xs (m - 1) = 0
        · refine .inr ⟨by rw [decide_eq_true h1], _, rfl, ⟨m - 1, rfl, by omega, fun t ht => ?_⟩, by omega⟩
          by_cases e : t = m - 1
          · rw [e]; exact h1
          · exact h0 t (by omega)
        · exact .inl (by rw [decide_eq_false h1])) (c := (xs.length : Int)) ⟨xs.length, rfl, Nat.le_refl _, fun t ht => co_out ht⟩
  rw [e, bind_ok, cutL_to hm, cutP_take hm h0]
  by_cases hz : m = 0
  · exact .inl hz
  · right
    intro h1
    rw [bind_okS, if_pos (decide_eq_true (by omega)), show (m : Int) - 1 = ((m - 1 : Nat) : Int) by omega, pget_co (by omega), bind_ok, decide_eq_true h1] at ht
    cases ht
/-! sums -/
def addP : List Int → List Int → List Int
  | [], g => g
  | a :: f, [] => a :: f
  | a :: f, b :: g => (a + b) :: addP f g
theorem addP_co : ∀ (f g : List Int) (t : Nat), co (addP f g) t = co f t + co g t
  | [], g, t => by show co g t = _; rw [co_nil]; omega
  | a :: f, [], t => by show co (a :: f) t = _; rw [co_nil]; omega
  | a :: f, b :: g, 0 => rfl
  | a :: f, b :: g, t + 1 => by show co (_ :: addP f g) (t + 1) = _; rw [co_succ, co_succ, co_succ, addP_co]
theorem addP_ev (z : Int) : ∀ f g : List Int, ev (addP f g) z = ev f z + ev g z
  | [], g => by show ev g z = 0 + ev g z; omega
  | a :: f, [] => by show ev (a :: f) z = ev (a :: f) z + 0; omega
  | a :: f, b :: g => by
    show (a + b) + z * ev (addP f g) z = (a + z * ev f z) + (b + z * ev g z)
    rw [addP_ev z f g]; grind
def scaleP (c : Int) (f : List Int) : List Int := f.map (c * ·)
theorem scaleP_co (c : Int) (f : List Int) (t : Nat) : co (scaleP c f) t = c * co f t := co_map f (c * ·) (Int.mul_zero c) t
theorem scaleP_ev (c z : Int) : ∀ f : List Int, ev (scaleP c f) z = c * ev f z
  | [] => by show (0 : Int) = c * 0; omega
  | a :: f => by show c * a + z * ev (scaleP c f) z = c * (a + z * ev f z); rw [scaleP_ev c z f]; grind
/-! products -/
def mulP : List Int → List Int → List Int
  | [], _ => []
  | a :: f, g => addP (scaleP a g) (0 :: mulP f g)
theorem mulP_ev (z : Int) (g : List Int) : ∀ f : List Int, ev (mulP f g) z = ev f z * ev g z
  | [] => by show (0 : Int) = 0 * _; omega
  | a :: f => by
    show ev (addP (scaleP a g) (0 :: mulP f g)) z = (a + z * ev f z) * ev g z
    rw [addP_ev, scaleP_ev]
    show a * ev g z + (0 + z * ev (mulP f g) z) = _
    rw [mulP_ev z g f]; grind
theorem mulP_cons_zero (a : Int) (f g : List Int) : co (mulP (a :: f) g) 0 = a * co g 0 := by
  show co (addP (scaleP a g) (0 :: mulP f g)) 0 = _
  rw [addP_co, scaleP_co, co_zero]; omega
theorem mulP_cons_succ (a : Int) (f g : List Int) (t : Nat) : co (mulP (a :: f) g) (t + 1) = a * co g (t + 1) + co (mulP f g) t := by
  show co (addP (scaleP a g) (0 :: mulP f g)) (t + 1) = _
  rw [addP_co, scaleP_co, co_succ]
theorem mulP_snoc (x : Int) (g : List Int) : ∀ (f : List Int) (t : Nat), co (mulP (f ++ [x]) g) t = co (mulP f g) t + if f.length ≤ t then x * co g (t - f.length) else 0
  | [], 0 => by
    show co (mulP [x] g) 0 = 0 + _
    rw [mulP_cons_zero]; simp
  | [], t + 1 => by
    show co (mulP [x] g) (t + 1) = 0 + _
    rw [mulP_cons_succ]; simp [mulP, co_nil]
  | a :: f, 0 => by
    rw [List.cons_append, mulP_cons_zero, mulP_cons_zero]; simp
  | a :: f, t + 1 => by
    rw [List.cons_append, mulP_cons_succ, mulP_cons_succ, mulP_snoc x g f t, List.length_cons]
    have : (f.length + 1 ≤ t + 1) = (f.length ≤ t) := by rw [Nat.add_le_add_iff_right]
    simp only [this, Nat.add_sub_add_right]
    omega
theorem mulP_out (g : List Int) : ∀ (f : List Int) (t : Nat), f.length + g.length ≤ t + 1 → f = [] ∨ 0 < g.length → co (mulP f g) t = 0
  | [], t, _, _ => rfl
  | a :: f, 0, h, hg => by
    rcases hg with z | hg
    · cases z
    · rw [List.length_cons] at h; omega
  | a :: f, t + 1, h, hg => by
    rcases hg with z | hg
    · cases z
    · rw [List.length_cons] at h
      rw [mulP_cons_succ, co_out (by omega), mulP_out g f t (by omega) (.inr hg)]
      omega
theorem mulP_nil_r : ∀ (f : List Int) (t : Nat), co (mulP f []) t = 0
  | [], t => rfl
  | a :: f, 0 => by rw [mulP_cons_zero, co_nil]; omega
  | a :: f, t + 1 => by rw [mulP_cons_succ, co_nil, mulP_nil_r f t]; omega
/-- the place on top -/
theorem mulP_top (g : List Int) (hg : 0 < g.length) : ∀ (f : List Int), 0 < f.length → co (mulP f g) (f.length + g.length - 2) = co f (f.length - 1) * co g (g.length - 1)
  | [], h => nomatch h
  | [a], _ => by
    have e : [a].length + g.length - 2 = g.length - 1 := by simp; omega
    rw [e]
    show _ = a * _
    by_cases h : g.length - 1 = 0
    · rw [h, mulP_cons_zero]
    · obtain ⟨t, ht⟩ := Nat.exists_eq_succ_of_ne_zero h
      rw [ht, Nat.succ_eq_add_one, mulP_cons_succ]; simp [mulP, co_nil]
  | a :: b :: f, _ => by
    have ih := mulP_top g hg (b :: f) (by simp)
    have e : (a :: b :: f).length + g.length - 2 = ((b :: f).length + g.length - 2) + 1 := by simp only [List.length_cons]; omega
    have e2 : (a :: b :: f).length - 1 = ((b :: f).length - 1) + 1 := by simp only [List.length_cons]; omega
    rw [e, mulP_cons_succ, ih, e2, co_succ, co_out (show g.length ≤ (b :: f).length + g.length - 2 + 1 by simp only [List.length_cons]; omega)]
    omega
/-! Horner's loop -/
/-! places added into a row -/
theorem is_poly_last {xs : List Int} (h : Cut xs) (hn : xs ≠ []) : pget xs (-1) = ok (co xs (xs.length - 1)) ∧ co xs (xs.length - 1) ≠ 0 := by
  refine ⟨?_, h.last hn⟩
  rcases h with z | ⟨a, l, rfl, _⟩
  · exact absurd z hn
  · unfold pget
    rw [atI_last, List.length_append, co_append_r (by simp)]
    simp [co]
end T
set_option maxRecDepth 100000
namespace T
open PySem PySem.Spec PyProof.Rows L2
/-! ### the law's questions about a row -/
noncomputable def m_whole (found1 : Int) : M Bool :=
  (M.bind (ok true) fun z2 => if z2 = true then (ok (!false)) else ok false)
theorem whole_ok (x : Int) : m_whole x = ok true := rfl
noncomputable def m_is_poly (found1 : (List Int)) : M Bool :=
  (M.bind (ok (!true)) fun z2 => if z2 = true then (ok false) else (M.bind (M.bind (M.bind (mapC (fun place3 => (m_whole place3)) found1) fun u4 => ok (List.all u4 id)) fun u5 => ok (!u5)) fun z6 => if z6 = true then (ok false) else (M.bind (ok (decide ((List.length found1 : Int) = 0))) fun z8 => if z8 = true then ok true else (M.bind (pget found1 (-1)) fun u7 => ok ((!decide (u7 = 0)))))))
theorem is_poly_ok {xs : List Int} (h : Cut xs) (hl : xs.length ≤ 16777216) : m_is_poly xs = ok true := by
  unfold m_is_poly
  rw [mapC_ok (g := fun _ => true) (fun x _ => whole_ok x) (by rw [sizeLine_eq]; exact hl)]
  have e : (xs.map fun _ => true).all id = true := by simp
  simp only [bind_okS, e, Bool.not_true, Bool.false_eq_true, if_false]
  by_cases hn : xs = []
  · subst hn; rfl
  · rw [if_neg (by simpa using hn)]
    obtain ⟨h1, h2⟩ := is_poly_last h hn
    rw [h1, bind_ok, decide_eq_false h2]
    rfl
theorem prep0 {k : Nat} (h : k ≤ 16777216) : prep [(0 : Int)] (k : Int) = ok (List.replicate k 0) := prep_ok h
/-! ### the program's rows -/
end T
set_option maxRecDepth 100000
namespace T
open PySem PySem.Spec PyProof.Rows L2
/-! ### division by a monic row -/
theorem Cut.len_le {xs : List Int} (h : Cut xs) {n : Nat} (h0 : ∀ t, n ≤ t → co xs t = 0) : xs.length ≤ n := by
  by_cases hn : xs = []
  · subst hn; exact Nat.zero_le _
  · have h1 := h.last hn
    have hp : 0 < xs.length := List.length_pos_iff.mpr hn
    by_cases hl : xs.length ≤ n
    · exact hl
    · exact absurd (h0 _ (by omega)) h1
theorem prangeD_ok {i j : Int} (h1 : i.natAbs < 1000000000) (h2 : j.natAbs < 1000000000) : prangeD i j = ok (rangeD i (i - j).toNat) := by
  have e : (2 : Int) ^ 62 = 4611686018427387904 := by decide
  refine grd_pos ?_ _
  rw [e]
  omega
theorem cutL_take {α : Type} (xs : List α) (m : Nat) : cutL xs none (some (m : Int)) = xs.take m := by
  unfold cutL
  rw [show HT.sIx xs.length xs.length (some (m : Int)) = min m xs.length from HT.sIx_nat xs.length xs.length m, HT.sIx_none, List.drop_zero, Nat.sub_zero]
  by_cases h : m ≤ xs.length
  · rw [Nat.min_eq_left h]
  · rw [Nat.min_eq_right (by omega), List.take_length, List.take_of_length_le (by omega)]
end T
set_option maxRecDepth 100000
namespace T
open PySem PySem.Spec PyProof.Rows L2
/-! ### the algebra of rows, place by place -/
theorem co_cons0 (f : List Int) : ∀ t, co (0 :: f) t = match t with | 0 => 0 | t + 1 => co f t
  | 0 => rfl
  | t + 1 => co_succ 0 f t
theorem mulP_zero_l {f : List Int} (g : List Int) : (∀ t, co f t = 0) → ∀ t, co (mulP f g) t = 0 := by
  induction f with
  | nil => intro _ t; rfl
  | cons a f ih =>
    intro h t
    have h0 : a = 0 := h 0
    have h1 : ∀ t, co f t = 0 := fun t => by rw [← co_succ a]; exact h (t + 1)
    cases t with
    | zero => rw [mulP_cons_zero, h0]; omega
    | succ t => rw [mulP_cons_succ, h0, ih h1]; omega
theorem mulP_congr_l (g : List Int) : ∀ {f f' : List Int}, (∀ t, co f t = co f' t) → ∀ t, co (mulP f g) t = co (mulP f' g) t
  | [], f', h, t => (mulP_zero_l g (fun t => (h t).symm) t).symm
  | a :: f, [], h, t => mulP_zero_l g h t
  | a :: f, b :: f', h, t => by
    have h0 : a = b := h 0
    have h1 : ∀ t, co f t = co f' t := fun t => by rw [← co_succ a, ← co_succ b]; exact h (t + 1)
    cases t with
    | zero => rw [mulP_cons_zero, mulP_cons_zero, h0]
    | succ t => rw [mulP_cons_succ, mulP_cons_succ, h0, mulP_congr_l g h1 t]
theorem mulP_congr_r {g g' : List Int} (h : ∀ t, co g t = co g' t) : ∀ (f : List Int) (t : Nat), co (mulP f g) t = co (mulP f g') t
  | [], t => rfl
  | a :: f, 0 => by rw [mulP_cons_zero, mulP_cons_zero, h]
  | a :: f, t + 1 => by rw [mulP_cons_succ, mulP_cons_succ, h, mulP_congr_r h f t]
theorem mulP_add_l (g : List Int) : ∀ (f f' : List Int) (t : Nat), co (mulP (addP f f') g) t = co (mulP f g) t + co (mulP f' g) t
  | [], f', t => by show co (mulP f' g) t = 0 + _; omega
  | a :: f, [], t => by show co (mulP (a :: f) g) t = _ + 0; omega
  | a :: f, b :: f', 0 => by
    show co (mulP ((a + b) :: addP f f') g) 0 = _
    rw [mulP_cons_zero, mulP_cons_zero, mulP_cons_zero]; grind
  | a :: f, b :: f', t + 1 => by
    show co (mulP ((a + b) :: addP f f') g) (t + 1) = _
    rw [mulP_cons_succ, mulP_cons_succ, mulP_cons_succ, mulP_add_l g f f' t]; grind
theorem mulP_add_r (g g' : List Int) : ∀ (f : List Int) (t : Nat), co (mulP f (addP g g')) t = co (mulP f g) t + co (mulP f g') t
  | [], t => rfl
  | a :: f, 0 => by rw [mulP_cons_zero, mulP_cons_zero, mulP_cons_zero, addP_co]; grind
  | a :: f, t + 1 => by rw [mulP_cons_succ, mulP_cons_succ, mulP_cons_succ, addP_co, mulP_add_r g g' f t]; grind
theorem mulP_scale_l (c : Int) (g : List Int) : ∀ (f : List Int) (t : Nat), co (mulP (scaleP c f) g) t = c * co (mulP f g) t
  | [], t => by show (0 : Int) = c * 0; omega
  | a :: f, 0 => by show co (mulP (c * a :: scaleP c f) g) 0 = _; rw [mulP_cons_zero, mulP_cons_zero]; grind
  | a :: f, t + 1 => by show co (mulP (c * a :: scaleP c f) g) (t + 1) = _; rw [mulP_cons_succ, mulP_cons_succ, mulP_scale_l c g f t]; grind
theorem mulP_shift_r (g : List Int) : ∀ (f : List Int) (t : Nat), co (mulP f (0 :: g)) t = co (0 :: mulP f g) t
  | [], t => by cases t with
    | zero => rfl
    | succ t => rw [co_succ]; rfl
  | a :: f, 0 => by rw [mulP_cons_zero, co_zero, co_zero]; omega
  | a :: f, 1 => by
    rw [mulP_cons_succ, mulP_shift_r g f 0, co_succ, co_succ, mulP_cons_zero, co_zero]; omega
  | a :: f, t + 2 => by
    rw [mulP_cons_succ, mulP_shift_r g f (t + 1), co_succ, co_succ, co_succ, mulP_cons_succ]
theorem mulP_cons_r (b : Int) (g : List Int) (f : List Int) (t : Nat) : co (mulP f (b :: g)) t = b * co f t + co (0 :: mulP f g) t := by
  have h : ∀ t, co (b :: g) t = co (addP [b] (0 :: g)) t := fun t => by
    rw [addP_co]
    cases t with
    | zero => rw [co_zero, co_zero, co_zero]; omega
    | succ t => rw [co_succ, co_succ, co_succ, co_nil]; omega
  rw [mulP_congr_r h, mulP_add_r, mulP_shift_r]
  congr 1
  have h2 : ∀ (f : List Int) (t : Nat), co (mulP f [b]) t = b * co f t := fun f => by
    induction f with
    | nil => intro t; show (0 : Int) = b * 0; omega
    | cons a f ih =>
      intro t
      cases t with
      | zero => rw [mulP_cons_zero, co_zero, co_zero]; grind
      | succ t => rw [mulP_cons_succ, ih, co_succ, co_succ, co_nil]; omega
  exact h2 f t
theorem mulP_comm : ∀ (f g : List Int) (t : Nat), co (mulP f g) t = co (mulP g f) t
  | [], g, t => (mulP_nil_r g t).symm
  | a :: f, g, t => by
    rw [mulP_cons_r]
    cases t with
    | zero => rw [mulP_cons_zero, co_zero]; omega
    | succ t => rw [mulP_cons_succ, co_succ, mulP_comm f g t]
theorem mulP_assoc (g h : List Int) : ∀ (f : List Int) (t : Nat), co (mulP (mulP f g) h) t = co (mulP f (mulP g h)) t
  | [], t => rfl
  | a :: f, t => by
    show co (mulP (addP (scaleP a g) (0 :: mulP f g)) h) t = co (addP (scaleP a (mulP g h)) (0 :: mulP f (mulP g h))) t
    rw [mulP_add_l, mulP_scale_l, addP_co, scaleP_co]
    congr 1
    cases t with
    | zero => rw [mulP_cons_zero, co_zero]; omega
    | succ t => rw [mulP_cons_succ, co_succ, mulP_assoc g h f t]; omega
/-! ### numbers modulo p -/
def Cg (p x y : Int) : Prop := ∃ k, x = y + p * k
theorem Cg.refl (p x : Int) : Cg p x x := ⟨0, by omega⟩
theorem Cg.of_eq {p x y : Int} (h : x = y) : Cg p x y := h ▸ Cg.refl p x
theorem Cg.symm {p x y : Int} : Cg p x y → Cg p y x := fun ⟨k, h⟩ => ⟨-k, by rw [h]; grind⟩
theorem Cg.trans {p x y z : Int} : Cg p x y → Cg p y z → Cg p x z := fun ⟨k, h⟩ ⟨l, g⟩ => ⟨k + l, by rw [h, g]; grind⟩
theorem Cg.add {p x y z w : Int} : Cg p x y → Cg p z w → Cg p (x + z) (y + w) := fun ⟨k, h⟩ ⟨l, g⟩ => ⟨k + l, by rw [h, g]; grind⟩
theorem Cg.sub {p x y z w : Int} : Cg p x y → Cg p z w → Cg p (x - z) (y - w) := fun ⟨k, h⟩ ⟨l, g⟩ => ⟨k - l, by rw [h, g]; grind⟩
theorem Cg.mul {p x y z w : Int} : Cg p x y → Cg p z w → Cg p (x * z) (y * w) := fun ⟨k, h⟩ ⟨l, g⟩ => ⟨k * w + y * l + p * k * l, by rw [h, g]; grind⟩
theorem Cg.neg {p x y : Int} : Cg p x y → Cg p (-x) (-y) := fun ⟨k, h⟩ => ⟨-k, by rw [h]; grind⟩
theorem Cg.mod (p x : Int) : Cg p (x % p) x := ⟨-(x / p), by have := Int.mul_ediv_add_emod x p; grind⟩
theorem Cg.iff {p x y : Int} : Cg p x y ↔ x % p = y % p := by
  constructor
  · rintro ⟨k, rfl⟩; exact Int.add_mul_emod_self_left y p k
  · intro h
    exact ((Cg.mod p x).symm.trans (Cg.of_eq h)).trans (Cg.mod p y)
theorem Cg.small {p x y : Int} (h : Cg p x y) (h0 : 0 ≤ x) (h1 : x < p) (h2 : 0 ≤ y) (h3 : y < p) : x = y := by
  have := Cg.iff.mp h
  rwa [Int.emod_eq_of_lt h0 h1, Int.emod_eq_of_lt h2 h3] at this
/-- rows, place by place -/
def CgP (p : Int) (f g : List Int) : Prop := ∀ t, Cg p (co f t) (co g t)
theorem CgP.refl (p : Int) (f : List Int) : CgP p f f := fun t => Cg.refl _ _
theorem CgP.symm {p : Int} {f g : List Int} (h : CgP p f g) : CgP p g f := fun t => (h t).symm
theorem CgP.trans {p : Int} {f g h : List Int} (a : CgP p f g) (b : CgP p g h) : CgP p f h := fun t => (a t).trans (b t)
theorem CgP.of {p : Int} {f g : List Int} (h : ∀ t, co f t = co g t) : CgP p f g := fun t => Cg.of_eq (h t)
/-- a row's places brought to their rests -/
def modP (p : Int) (f : List Int) : List Int := cutP (f.map (· % p))
theorem modP_co (p : Int) (f : List Int) (t : Nat) : co (modP p f) t = co f t % p := by
  unfold modP
  rw [cutP_co, co_map f (· % p) (Int.zero_emod p)]
theorem modP_cg (p : Int) (f : List Int) : CgP p (modP p f) f := fun t => by rw [modP_co]; exact Cg.mod p _
theorem modP_cut (p : Int) (f : List Int) : Cut (modP p f) := cutP_cut _
theorem modP_len (p : Int) (f : List Int) : (modP p f).length ≤ f.length := by
  have := cutP_len (f.map (· % p))
  rwa [List.length_map] at this
/-- each place from 0 on and below p -/
def Red (p : Int) (f : List Int) : Prop := ∀ t, 0 ≤ co f t ∧ co f t < p
theorem modP_red {p : Int} (hp : 0 < p) (f : List Int) : Red p (modP p f) := fun t => by
  rw [modP_co]
  exact ⟨Int.emod_nonneg _ (by omega), Int.emod_lt_of_pos _ hp⟩
theorem Red.eq {p : Int} {f g : List Int} (hf : Red p f) (hg : Red p g) (h : CgP p f g) (t : Nat) : co f t = co g t := (h t).small (hf t).1 (hf t).2 (hg t).1 (hg t).2
theorem modP_eq {p : Int} {f g : List Int} (hp : 0 < p) (hc : Cut g) (hr : Red p g) (h : CgP p f g) : modP p f = g :=
  Cut.eq (modP_cut p f) hc ((modP_red hp f).eq hr ((modP_cg p f).trans h))
theorem Red.mem {p : Int} {f : List Int} (h : Red p f) : ∀ x ∈ f, 0 ≤ x ∧ x < p := fun x hx => by
  obtain ⟨i, hi⟩ := List.getElem?_of_mem hx
  have := h i
  rwa [co_some hi] at this
theorem Red.of {p : Int} (hp : 0 < p) {f : List Int} (h : ∀ x ∈ f, 0 ≤ x ∧ x < p) : Red p f := fun t => by
  by_cases ht : t < f.length
  · exact h _ (co_mem ht)
  · rw [co_out (by omega)]; exact ⟨by omega, hp⟩
theorem Red.sm {p : Int} {f : List Int} {k : Nat} (h : Red p f) (hp : Sm k p) : ∀ x ∈ f, Sm k x := fun x hx => by
  obtain ⟨h0, h1⟩ := h.mem x hx
  exact Nat.le_trans (log2_le (by omega)) hp
/-! ### the turned number -/
noncomputable def m_turned (a1 : Int) (p2 : Int) : M Int :=
  (M.bind (pmod a1 p2) fun one3 => (M.bind (ok p2) fun two4 => (M.bind (ok 1) fun first5 => (M.bind (ok 0) fun second6 => (M.bind (whileM (fun (s7 : Int × Int × Int × Int) => (ok (decide (1 < s7.1)))) (fun (s7 : Int × Int × Int × Int) => (M.bind (pdiv s7.2.1 s7.1) fun part8 => (M.bind (M.bind (M.bind (pmul part8 s7.1) fun u10 => ok (s7.2.1 - u10)) fun u11 => ok (u11, s7.1)) fun p9 => (M.bind (M.bind (M.bind (pmul part8 s7.2.2.1) fun u13 => ok (s7.2.2.2 - u13)) fun u14 => ok (u14, s7.2.2.1)) fun p12 => ok (p9.1, p9.2, p12.1, p12.2))))) (one3, two4, first5, second6)) fun s15 => (pmod s15.2.2.1 p2))))))
end T
set_option maxRecDepth 100000
namespace T
open PySem PySem.Spec PyProof.Rows L2
/-- nothing but 1 and -1 divides both -/
def Cop (x y : Int) : Prop := ∀ d : Int, d ∣ x → d ∣ y → d ∣ 1
theorem Cop.of_gcd {x y : Int} (h : Int.gcd x y = 1) : Cop x y := fun d h1 h2 => by
  have := Int.dvd_coe_gcd h1 h2
  rw [h] at this
  exact this
theorem pow64 : (2 : Nat) ^ 64 = 18446744073709551616 := by decide
theorem turned_ok {a p : Int} (hp : 1 < p) (hs : p.natAbs < 18446744073709551616) (hc : Cop (a % p) p) : ∃ t, m_turned a p = ok t ∧ 0 ≤ t ∧ t < p ∧ Cg p (t * a) 1 := by
  have hlog : ∀ x : Int, x.natAbs ≤ p.natAbs → x.natAbs.log2 < 9000 := fun x hx => by
    have := log2_le (show x.natAbs ≤ 18446744073709551616 by omega)
    have e : (18446744073709551616 : Nat).log2 = 64 := by decide +kernel
    omega
  have h0 := Int.emod_nonneg a (show p ≠ 0 by omega)
  have h1 := Int.emod_lt_of_pos a (show 0 < p by omega)
  have h2 : a % p ≠ 0 := fun z => by
    rw [z] at hc
    have := hc p (Int.dvd_zero p) (Int.dvd_refl p)
    have := Int.eq_one_of_dvd_one (by omega) this
    omega
  unfold m_turned
  rw [pmod_pos (by omega), bind_ok, bind_okS, bind_okS, bind_okS]
  obtain ⟨⟨o, t, f, s⟩, e, ⟨q1, q2, q3, q4, q5, q6⟩, q7⟩ := whileM_inv (t := fun (s7 : Int × Int × Int × Int) => (ok (decide (1 < s7.1)))) (b := fun (s7 : Int × Int × Int × Int) => (M.bind (pdiv s7.2.1 s7.1) fun part8 => (M.bind (M.bind (M.bind (pmul part8 s7.1) fun u10 => ok (s7.2.1 - u10)) fun u11 => ok (u11, s7.1)) fun p9 => (M.bind (M.bind (M.bind (pmul part8 s7.2.2.1) fun u13 => ok (s7.2.2.2 - u13)) fun u14 => ok (u14, s7.2.2.1)) fun p12 => ok (p9.1, p9.2, p12.1, p12.2)))))
    (fun s => 1 ≤ s.1 ∧ s.1 < s.2.1 ∧ s.2.1 ≤ p ∧ Cop s.1 s.2.1 ∧ Cg p s.1 (s.2.2.1 * a) ∧ Cg p s.2.1 (s.2.2.2 * a)) (fun s => s.1.toNat) (by
      rintro ⟨o, t, f, s⟩ ⟨q1, q2, q3, q4, q5, q6⟩
      dsimp only at q1 q2 q3 q4 q5 q6 ⊢
      by_cases hc : 1 < o
      · right
        refine ⟨by rw [decide_eq_true hc], ?_⟩
        have d1 : 0 ≤ t / o := Int.ediv_nonneg (by omega) (by omega)
        have d2 : t / o ≤ t := Int.ediv_le_self o (by omega)
        have dm := Int.mul_ediv_add_emod t o
        have m0 := Int.emod_nonneg t (show o ≠ 0 by omega)
        have m1 := Int.emod_lt_of_pos t (show 0 < o by omega)
        have e1 : t - t / o * o = t % o := by rw [Int.mul_comm (t / o) o]; omega
        have c1 : Cop (t % o) o := fun d z1 z2 => q4 d z2 (by
          rw [← dm]
          exact Int.dvd_add (Int.dvd_trans z2 (Int.dvd_mul_right o _)) z1)
        have c2 : t % o ≠ 0 := fun z => by
          rw [z] at c1
          have := c1 o (Int.dvd_zero o) (Int.dvd_refl o)
          have := Int.eq_one_of_dvd_one (by omega) this
          omega
        rw [pdiv_ok (by omega) (hlog o (by omega)), Int.fdiv_eq_ediv_of_nonneg _ (by omega), bind_ok, pmul_left (by rw [pow64]; omega), bind_ok, bind_ok, bind_ok, pmul_left (by rw [pow64]; omega), bind_ok, bind_ok, bind_ok, e1]
        refine ⟨_, rfl, ⟨by dsimp only; omega, m1, by dsimp only; omega, c1, ?_, q5⟩, by dsimp only; omega⟩
        dsimp only
        rw [← e1, Int.sub_mul]
        refine q6.sub ?_
        rw [Int.mul_assoc]
        exact (Cg.refl p _).mul q5
      · exact .inl (by rw [decide_eq_false hc])) (c := (a % p, p, 1, 0)) ⟨by dsimp only; omega, h1, by dsimp only; omega, hc, by dsimp only; rw [Int.one_mul]; exact Cg.mod p a, ⟨1, by dsimp only; omega⟩⟩
  dsimp only at q1 q5 q7
  rw [e, bind_ok]
  dsimp only
  rw [pmod_pos (by omega)]
  refine ⟨_, rfl, Int.emod_nonneg _ (by omega), Int.emod_lt_of_pos _ (by omega), ?_⟩
  have ho : o = 1 := by
    by_cases hc : 1 < o
    · rw [decide_eq_true hc] at q7; cases q7
    · omega
  rw [ho] at q5
  exact ((Cg.mod p f).mul (Cg.refl p a)).trans q5.symm
/-! ### rows modulo p, the program's -/
noncomputable def m_mod_poly (row1 : (List Int)) (p2 : Int) : M (List Int) :=
  (M.bind (mapC (fun place3 => (pmod place3 p2)) row1) fun u4 => (m_cut u4))
theorem mod_poly_ok {f : List Int} {p : Int} (hp : 0 < p) (hl : f.length ≤ 16777216) : m_mod_poly f p = ok (modP p f) := by
  unfold m_mod_poly
  rw [mapC_ok (g := fun x => x % p) (fun x _ => pmod_pos hp) (by rw [sizeLineE]; exact hl), bind_ok, cut_ok]
  rfl
/-- places of a row set, one by one -/
theorem setInto {N i n : Nat} {step : List Int → Int → M (List Int)} {h : Nat → Int → Int} {L : List Int} (hL : L.length = N) (hi : i + n ≤ N)
    (hs : ∀ (c : List Int) (j : Nat), c.length = N → j < n → step c (j : Int) = ok (c.set (i + j) (h j (co c (i + j))))) :
    ∃ L', loopM step L (rangeL 0 n) = ok L' ∧ L'.length = N ∧ ∀ t, co L' t = if i ≤ t ∧ t < i + n then h (t - i) (co L t) else co L t := by
  obtain ⟨c, e, h1, h2⟩ := loopM_inv (f := step) (fun j (c : List Int) => c.length = N ∧ ∀ t, co c t = if i ≤ t ∧ t < i + j then h (t - i) (co L t) else co L t) (xs := rangeL 0 n) (c := L)
    ⟨hL, fun t => by rw [if_neg (by omega)]⟩ (fun j c x hx ⟨h1, h2⟩ => by
      obtain ⟨rfl, hj⟩ := range_get hx
      refine ⟨_, hs c j h1 hj, by rw [List.length_set]; exact h1, fun t => ?_⟩
      rw [co_set (by omega)]
      by_cases e : t = i + j
      · subst e
        rw [if_pos rfl, h2, if_neg (by omega), if_pos (by omega), show i + j - i = j by omega]
      · rw [if_neg e, h2]
        have : (i ≤ t ∧ t < i + j) ↔ (i ≤ t ∧ t < i + (j + 1)) := by omega
        simp only [this])
  rw [rangeL_len] at h2
  exact ⟨c, e, h1, h2⟩
theorem co_lead (m : Nat) (x : Int) (xs : List Int) (t : Nat) : co (List.replicate m 0 ++ x :: xs) t = co (addP (List.replicate m 0 ++ [x]) (List.replicate (m + 1) 0 ++ xs)) t := by
  rw [addP_co]
  have l : (List.replicate m (0 : Int)).length = m := List.length_replicate
  have l1 : (List.replicate (m + 1) (0 : Int)).length = m + 1 := List.length_replicate
  by_cases h : t < m
  · rw [co_append_l (by omega), co_append_l (by omega), co_append_l (by omega), co_rep0, co_rep0]; rfl
  · rw [co_append_r (by omega), co_append_r (by omega), l]
    by_cases e : t = m
    · subst e
      rw [Nat.sub_self, co_zero, co_zero, co_append_l (by omega), co_rep0]; omega
    · rw [co_append_r (by omega), l1]
      obtain ⟨k, hk⟩ : ∃ k, t - m = k + 1 := ⟨t - m - 1, by omega⟩
      rw [hk, co_succ, co_succ, co_nil, show t - (m + 1) = k by omega]; omega
theorem mulP_lead (m : Nat) (x : Int) (G : List Int) (t : Nat) : co (mulP (List.replicate m 0 ++ [x]) G) t = if m ≤ t then x * co G (t - m) else 0 := by
  rw [mulP_snoc, List.length_replicate, mulP_zero_l G (fun t => co_rep0 m t)]
  omega
noncomputable def m_mod_parted (a1 : (List Int)) (b2 : (List Int)) (p3 : Int) : M ((List Int) × (List Int)) :=
  (M.bind (m_mod_poly a1 p3) fun left4 => (M.bind (m_mod_poly b2 p3) fun by_5 => (M.bind (ok ((List.length by_5 : Int) - 1)) fun degree6 => (M.bind (M.bind (pget by_5 degree6) fun u8 => (m_turned u8 p3)) fun back7 => (M.bind (ok ([] : List Int)) fun quotient9 => (M.bind (M.bind (prangeD (((List.length left4 : Int) - 1) - degree6) (-1)) fun xs => loopM (fun (s10 : (List Int) × (List Int)) at_11 => (M.bind (M.bind (M.bind (pget s10.1 (at_11 + degree6)) fun u13 => (pmul u13 back7)) fun u14 => (pmod u14 p3)) fun part12 => (M.bind (papp s10.2 part12) fun quotient15 => (M.bind (M.bind (prangeI (degree6 + 1)) fun xs => loopM (fun (left16 : (List Int)) j17 => (M.bind (M.bind (M.bind (M.bind (pget left16 (at_11 + j17)) fun u19 => M.bind (M.bind (pget by_5 j17) fun u18 => (pmul part12 u18)) fun u20 => ok (u19 - u20)) fun u21 => (pmod u21 p3)) fun u23 => (pset left16 (at_11 + j17) u23)) fun left22 => ok (left22))) (s10.1) xs) fun left24 => ok (left24, quotient15))))) (left4, quotient9) xs) fun s25 => (M.bind (m_cut (List.reverse s25.2)) fun u26 => M.bind (m_cut (cutL s25.1 none (some degree6))) fun u27 => ok (u26, u27))))))))
theorem rangeD_atN {n d l k : Nat} {x : Int} (hn : n = l - d) (h : (rangeD ((l : Int) - 1 - (d : Int)) n)[k]? = some x) : x = ((n - 1 - k : Nat) : Int) ∧ k < n := by
  rw [rangeD_get] at h
  by_cases e : k < n
  · rw [if_pos e] at h
    have := Option.some.inj h
    exact ⟨by omega, e⟩
  · rw [if_neg e] at h; cases h
/-- division modulo p -/
theorem mod_parted_ok {f g G : List Int} {p : Int} {d : Nat} (hp : 1 < p) (hs : p.natAbs < 18446744073709551616) (hG : modP p g = G) (hd : G.length = d + 1) (hc : Cop (co G d % p) p) (hf : f.length ≤ 100000) (hg : g.length ≤ 100000) :
    ∃ Q R, m_mod_parted f g p = ok (Q, R) ∧ Cut Q ∧ Cut R ∧ Red p Q ∧ Red p R ∧ R.length ≤ d ∧ Q.length ≤ f.length ∧ CgP p f (addP (mulP Q G) R) := by
  have hp0 : 0 < p := by omega
  have gl : G.length ≤ g.length := hG ▸ modP_len p g
  have rG : Red p G := hG ▸ modP_red hp0 g
  have sp : Sm 64 p := Nat.le_trans (log2_le (show p.natAbs ≤ 18446744073709551616 by omega)) (by decide +kernel)
  obtain ⟨b, eb, b0, b1, bc⟩ := turned_ok hp hs hc
  unfold m_mod_parted
  generalize hF : modP p f = F
  have fl : F.length ≤ f.length := hF ▸ modP_len p f
  have rF : Red p F := hF ▸ modP_red hp0 f
  have cF : CgP p F f := hF ▸ modP_cg p f
  rw [mod_poly_ok hp0 (by omega), bind_ok, mod_poly_ok hp0 (by omega), bind_ok, hF, hG, bind_okS, show (G.length : Int) - 1 = (d : Int) by omega, pget_co (by omega), bind_ok, eb, bind_ok, bind_okS]
  simp only [show (d : Int) + 1 = ((d + 1 : Nat) : Int) by omega, prangeI_nat (show d + 1 < 2 ^ 62 by omega), bind_okS, bind_ret]
  rw [prangeD_ok (by omega) (by omega), bind_ok]
  obtain ⟨n, hn⟩ : ∃ n, n = F.length - d := ⟨_, rfl⟩
  rw [show ((F.length : Int) - 1 - d - -1).toNat = n by omega]
  have sb : Sm 64 b := Nat.le_trans (log2_le (by omega)) sp
  obtain ⟨⟨c1, c2⟩, e, l1, l2, l3, l4, l5, l6⟩ := loopM_inv (f := fun (s10 : (List Int) × (List Int)) at_11 => (M.bind (M.bind (M.bind (pget s10.1 (at_11 + (d : Int))) fun u13 => (pmul u13 b)) fun u14 => (pmod u14 p)) fun part12 => (M.bind (papp s10.2 part12) fun quotient15 => (M.bind (loopM (fun (left16 : (List Int)) j17 => (M.bind (M.bind (M.bind (pget left16 (at_11 + j17)) fun u19 => M.bind (M.bind (pget G j17) fun u18 => (pmul part12 u18)) fun u20 => ok (u19 - u20)) fun u21 => (pmod u21 p)) fun u23 => (pset left16 (at_11 + j17) u23))) (s10.1) (rangeL 0 (d + 1))) fun left24 => ok (left24, quotient15)))))
    (fun k (c : List Int × List Int) => c.1.length = F.length ∧ c.2.length = k ∧ Red p c.1 ∧ (∀ x ∈ c.2, 0 ≤ x ∧ x < p) ∧ (∀ t, n - k + d ≤ t → co c.1 t = 0) ∧ CgP p F (addP c.1 (mulP (List.replicate (n - k) 0 ++ c.2.reverse) G))) (xs := rangeD ((F.length : Int) - 1 - (d : Int)) n) (c := (F, []))
    ⟨rfl, rfl, rF, fun x hx => (nomatch hx), fun t ht => co_out (by dsimp only; omega), fun t => by
      rw [addP_co, mulP_zero_l G (fun t => by rw [List.reverse_nil, List.append_nil]; exact co_rep0 _ t)]
      exact Cg.of_eq (by dsimp only; omega)⟩ (by
    rintro k ⟨c1, c2⟩ x hx ⟨h1, h2, h3, h4, h5, h6⟩
    dsimp only at h1 h2 h3 h4 h5 h6
    obtain ⟨rfl, hk⟩ := rangeD_atN hn hx
    generalize hat : n - 1 - k = a
    have hnk : n - k = a + 1 := by omega
    rw [hnk] at h5 h6
    dsimp only
    rw [show (a : Int) + (d : Int) = ((a + d : Nat) : Int) by omega, pget_co (by omega), bind_ok, mul_sm (j := 64) (k := 64) (Nat.le_trans (log2_le (by have := h3 (a + d); omega)) sp) sb (by omega), bind_ok, pmod_pos hp0, bind_ok]
    generalize hpt : co c1 (a + d) * b % p = pt
    have p0 : 0 ≤ pt := hpt ▸ Int.emod_nonneg _ (by omega)
    have p1 : pt < p := hpt ▸ Int.emod_lt_of_pos _ hp0
    have spt : Sm 64 pt := Nat.le_trans (log2_le (by omega)) sp
    rw [papp_ok (by omega), bind_ok]
    obtain ⟨L', e', l', k'⟩ := setInto (N := F.length) (i := a) (n := d + 1) (L := c1) (h := fun j x => (x - pt * co G j) % p) (step := fun (left16 : (List Int)) j17 => (M.bind (M.bind (M.bind (pget left16 ((a : Int) + j17)) fun u19 => M.bind (M.bind (pget G j17) fun u18 => (pmul pt u18)) fun u20 => ok (u19 - u20)) fun u21 => (pmod u21 p)) fun u23 => (pset left16 ((a : Int) + j17) u23))) h1 (by omega) (fun c j hc hj => by
      rw [show (a : Int) + (j : Int) = ((a + j : Nat) : Int) by omega, pget_co (by omega), bind_ok, pget_co (by omega), bind_ok, mul_sm (j := 64) (k := 64) spt (rG.sm sp _ (co_mem (by omega))) (by omega), bind_ok, bind_ok, pmod_pos hp0, bind_ok, pset_nat (by omega)])
    rw [e', bind_ok]
    have hcg : ∀ t, Cg p (co L' t) (co c1 t - if a ≤ t then pt * co G (t - a) else 0) := fun t => by
      rw [k']
      by_cases ht : a ≤ t
      · rw [if_pos ht]
        by_cases ht2 : t < a + (d + 1)
        · rw [if_pos ⟨ht, ht2⟩]; exact Cg.mod p _
        · rw [if_neg (by omega), co_out (xs := G) (by omega)]; exact Cg.of_eq (by omega)
      · rw [if_neg ht, if_neg (by omega)]; exact Cg.of_eq (by omega)
    have rL : Red p L' := fun t => by
      rw [k']
      split
      · exact ⟨Int.emod_nonneg _ (by omega), Int.emod_lt_of_pos _ hp0⟩
      · exact h3 t
    refine ⟨_, rfl, l', by rw [List.length_append, h2]; rfl, rL, fun x hx => ?_, fun t ht => ?_, fun t => ?_⟩
    · rcases List.mem_append.mp hx with q | q
      · exact h4 x q
      · have : x = pt := by simpa using q
        subst this; exact ⟨p0, p1⟩
    · dsimp only
      have ht : a + d ≤ t := by omega
      by_cases e : t = a + d
      · subst e
        have z1 := hcg (a + d)
        rw [if_pos (by omega), show a + d - a = d by omega] at z1
        have z2 : Cg p (pt * co G d) (co c1 (a + d)) := by
          rw [← hpt]
          refine ((Cg.mod p _).mul (Cg.refl p _)).trans ?_
          rw [Int.mul_assoc]
          refine ((Cg.refl p _).mul bc).trans (Cg.of_eq (by omega))
        have z3 : Cg p (co L' (a + d)) 0 := z1.trans (((Cg.refl p _).sub z2).trans (Cg.of_eq (by omega)))
        exact z3.small (rL _).1 (rL _).2 (by omega) hp0
      · rw [k', if_neg (by omega)]; exact h5 t (by omega)
    · dsimp only
      refine (h6 t).trans ?_
      rw [addP_co, addP_co, show n - (k + 1) = a by omega, List.reverse_append, List.reverse_singleton, List.singleton_append, mulP_congr_l G (co_lead a pt c2.reverse), mulP_add_l, mulP_lead]
      obtain ⟨z, hz⟩ := hcg t
      exact ⟨-z, by rw [hz]; grind⟩)
  rw [rangeD_len] at l2 l5 l6
  dsimp only at l1 l2 l3 l4 l5 l6
  simp only [Nat.sub_self, List.replicate_zero, List.nil_append, Nat.zero_add] at l5 l6
  rw [e, bind_ok]
  dsimp only
  rw [cut_ok, bind_ok, cutL_take, cut_ok, bind_ok]
  have hR : ∀ t, co (cutP (c1.take d)) t = co c1 t := fun t => by
    rw [cutP_co, co_take]
    split
    · rfl
    · exact (l5 t (by omega)).symm
  refine ⟨_, _, rfl, cutP_cut _, cutP_cut _, ?_, fun t => by rw [hR]; exact l3 t, (cutP_cut _).len_le fun t ht => by rw [hR]; exact l5 t ht, ?_, ?_⟩
  · exact Red.of hp0 fun x hx => l4 x (List.mem_reverse.mp (cutP_mem hx))
  · have := cutP_len c2.reverse
    rw [List.length_reverse] at this; omega
  · refine cF.symm.trans (l6.trans (CgP.of fun t => ?_))
    rw [addP_co, addP_co, hR, mulP_congr_l G (cutP_co c2.reverse)]
    omega
end T
set_option maxRecDepth 100000
namespace T
open PySem PySem.Spec PyProof.Rows L2
/-! ### the laws' helpers modulo a prime -/
def primesL : List Int := [2, 3, 5, 7, 11, 13, 17, 19, 23, 29, 31, 37, 41, 43, 47, 53, 59, 61, 67, 71, 73, 79, 83, 89, 97, 101, 103, 107, 109, 113, 127, 131, 137, 139, 149, 151, 157, 163, 167, 173, 179, 181, 191, 193, 197, 199]
noncomputable def m_primes  : M (List Int) :=
  (M.bind (prange2 2 200) fun xs => compL (fun n1 => (M.bind (M.bind (prange2 2 15) fun xs => mapC (fun d2 => (M.bind (ok (decide (n1 = d2))) fun z4 => if z4 = true then ok true else (M.bind (pmod n1 d2) fun u3 => ok ((!decide (u3 = 0)))))) xs) fun u5 => ok (List.all u5 id))) (fun n1 => (ok n1)) xs)
theorem primes_ok : m_primes = ok primesL := by kernel_rfl
theorem primes_fact : ∀ p ∈ primesL, 1 < p ∧ p < 200 ∧ (List.range p.natAbs).all (fun a => a == 0 || Nat.gcd a p.natAbs == 1) = true := by decide +kernel
def IsP (p : Int) : Prop := 1 < p ∧ p < 200 ∧ ∀ a : Int, a % p ≠ 0 → Cop (a % p) p
theorem isP_of {p : Int} (h : p ∈ primesL) : IsP p := by
  obtain ⟨h1, h2, h3⟩ := primes_fact p h
  refine ⟨h1, h2, fun a ha => Cop.of_gcd ?_⟩
  have m0 := Int.emod_nonneg a (show p ≠ 0 by omega)
  have m1 := Int.emod_lt_of_pos a (show 0 < p by omega)
  have h4 := List.all_eq_true.mp h3 (a % p).natAbs (List.mem_range.mpr (by omega))
  rw [Bool.or_eq_true] at h4
  rcases h4 with z | z
  · have : (a % p).natAbs = 0 := eq_of_beq z
    omega
  · exact eq_of_beq z
noncomputable def m_prime (cell_here1 : Int) (prime_here2 : Int) : M Int :=
  (M.bind (m_draws cell_here1 [2, 46] prime_here2) fun found3 => (M.bind (M.bind (pget found3 0) fun u4 => ok (decide (u4 = 0))) fun z5 => if z5 = true then (M.bind m_primes fun u7 => M.bind (M.bind (pget found3 1) fun u6 => ok (u6 % 6)) fun u8 => (pget u7 u8)) else (M.bind m_primes fun u9 => M.bind (pget found3 1) fun u10 => (pget u9 u10))))
theorem prime_ok (cell : Int) {prime : Int} (hp : 0 < prime) : ∃ p, m_prime cell prime = ok p ∧ p ∈ primesL := by
  unfold m_prime
  obtain ⟨rs, e, hd⟩ := draws_ok cell (ws := [2, 46]) (prime := prime) Widths.of hp
  obtain ⟨w0, r0, a0, b0⟩ := hd.at (i := 0) (w := 2) rfl
  obtain ⟨w1, r1, a1, b1⟩ := hd.at (i := 1) (w := 46) rfl
  have p0 : pget rs 0 = ok w0 := pget_some (i := 0) r0
  have p1 : pget rs 1 = ok w1 := pget_some (i := 1) r1
  simp only [e, p0, p1, bind_okS, primes_ok]
  have hl : primesL.length = 46 := rfl
  have key : ∀ i : Int, 0 ≤ i → i < 46 → ∃ p, pget primesL i = ok p ∧ p ∈ primesL := fun i h0 h1 => by
    obtain ⟨n, rfl⟩ := Int.eq_ofNat_of_zero_le h0
    have hn : n < primesL.length := by omega
    exact ⟨_, pget_nat hn, List.getElem_mem hn⟩
  by_cases h : w0 = 0
  · rw [if_pos (decide_eq_true h)]; exact key _ (by omega) (by omega)
  · rw [if_neg (by simpa using h)]; exact key _ a1 b1
noncomputable def m_mod_places (cell_here1 : Int) (many2 : Int) (p3 : Int) (prime_here4 : Int) : M (List Int) :=
  (M.bind (prep [p3] many2) fun u5 => (m_draws cell_here1 u5 prime_here4))
theorem mod_places_ok (cell : Int) {n : Nat} {p prime : Int} (hn : n ≤ 1000) (h0 : 0 < p) (h1 : p < 1000000) (hp : 0 < prime) : ∃ row, m_mod_places cell (n : Int) p prime = ok row ∧ row.length = n ∧ Red p row := by
  unfold m_mod_places
  have hlog : p.natAbs.log2 < 9000 := by
    have := log2_le (show p.natAbs ≤ 1000000 by omega)
    have e : (1000000 : Nat).log2 = 19 := by decide +kernel
    omega
  rw [prep_ok (by omega), bind_ok]
  obtain ⟨rs, e, hd⟩ := draws_ok cell (ws := List.replicate n p) (prime := prime) ⟨by rw [List.length_replicate]; omega, fun w hw => by rw [List.eq_of_mem_replicate hw]; exact ⟨h0, hlog⟩⟩ hp
  refine ⟨rs, e, by rw [hd.1, List.length_replicate], Red.of h0 fun x hx => ?_⟩
  obtain ⟨i, hi⟩ := List.getElem?_of_mem hx
  have hil : i < n := by
    have := (List.getElem?_eq_some_iff.mp hi).1
    rw [hd.1, List.length_replicate] at this
    exact this
  exact hd.2 i p x (by rw [List.getElem?_replicate, if_pos hil]) hi
noncomputable def m_written (places1 : (List Int)) (p2 : Int) (cell_here3 : Int) (prime_here4 : Int) : M (List Int) :=
  (M.bind (M.bind (M.bind (prep [100000000] (List.length places1 : Int)) fun u6 => (pcat [4] u6)) fun u7 => (m_draws cell_here3 u7 prime_here4)) fun found5 => (M.bind (M.bind (pget found5 0) fun u9 => (pget [0, 1, 100000000000000000000, 10000000000000000000000000000000000000000000000000000000000000000000000000000000000000000] u9)) fun far8 => (mapC (fun x10 => (M.bind (M.bind (pmul p2 far8) fun u11 => (pmul u11 (x10.2 - 50000000))) fun u12 => ok (x10.1 + u12))) (List.zip places1 (cutL found5 (some 1) none)))))
theorem written_ok {f : List Int} {p : Int} (cell : Int) {prime : Int} (hf : f.length ≤ 1000) (h0 : 0 < p) (h1 : p < 1000000) (hp : 0 < prime) : ∃ row, m_written f p cell prime = ok row ∧ row.length = f.length ∧ CgP p row f := by
  unfold m_written
  rw [prep_ok (by omega), bind_ok, pcat_ok (by rw [List.length_replicate]; simp; omega), bind_ok]
  obtain ⟨rs, e, hd⟩ := draws_ok cell (ws := [4] ++ List.replicate f.length 100000000) (prime := prime) ⟨by rw [List.length_append, List.length_replicate]; simp; omega, fun w hw => by
    rcases List.mem_append.mp hw with q | q
    · have : w = 4 := by simpa using q
      subst this; exact ⟨by omega, by decide +kernel⟩
    · rw [List.eq_of_mem_replicate q]; exact ⟨by omega, by decide +kernel⟩⟩ hp
  obtain ⟨w0, r0, a0, b0⟩ := hd.at (i := 0) (w := 4) rfl
  have p0 : pget rs 0 = ok w0 := pget_some (i := 0) r0
  have hl : rs.length = f.length + 1 := by rw [hd.1, List.length_append, List.length_replicate]; simp; omega
  rw [e, bind_ok, p0, bind_ok]
  have hfar : ∃ far : Int, (pget [0, 1, 100000000000000000000, 10000000000000000000000000000000000000000000000000000000000000000000000000000000000000000] w0 : M Int) = ok far ∧ Sm 400 far := by
    have : w0 = 0 ∨ w0 = 1 ∨ w0 = 2 ∨ w0 = 3 := by omega
    rcases this with rfl | rfl | rfl | rfl
    · exact ⟨0, rfl, by unfold Sm; decide⟩
    · exact ⟨1, rfl, by unfold Sm; decide⟩
    · exact ⟨100000000000000000000, rfl, by unfold Sm; decide +kernel⟩
    · exact ⟨10000000000000000000000000000000000000000000000000000000000000000000000000000000000000000, rfl, by unfold Sm; decide +kernel⟩
  obtain ⟨far, ef, sf⟩ := hfar
  have sp : Sm 64 p := Sm.of (A := 1000000) (by omega)
  have sfp := sp.mul sf
  rw [ef, bind_ok, show cutL rs (some 1) none = rs.drop 1 from cutL_from 1 (by omega)]
  obtain ⟨row, er, lr, gr, _⟩ := mapC_ex (f := fun (x10 : Int × Int) => (M.bind (M.bind (pmul p far) fun u11 => (pmul u11 (x10.2 - 50000000))) fun u12 => ok (x10.1 + u12))) (P := fun x y => y = x.1 + p * far * (x.2 - 50000000)) (xs := List.zip f (rs.drop 1)) (fun x hx => by
    obtain ⟨a, b⟩ := x
    have hb : b ∈ rs := List.mem_of_mem_drop (List.of_mem_zip hx).2
    obtain ⟨i, hi⟩ := List.getElem?_of_mem hb
    have hb2 : 0 ≤ b ∧ b < 1000000000 := by
      have hil : i < ([4] ++ List.replicate f.length (100000000 : Int)).length := by
        have := (List.getElem?_eq_some_iff.mp hi).1
        rw [hd.1] at this; exact this
      have h := hd.2 i _ b (List.getElem?_eq_getElem hil) hi
      have hm := List.getElem_mem hil
      rcases List.mem_append.mp hm with q | q
      · have : ([4] ++ List.replicate f.length (100000000 : Int))[i] = 4 := by simpa using q
        omega
      · have := List.eq_of_mem_replicate q
        omega
    refine ⟨_, ?_, rfl⟩
    dsimp only
    rw [mul_sm sp sf (by omega), bind_ok, mul_sm sfp (Sm.of (A := 10000000000) (k := 64) (by omega)) (by omega), bind_ok]) (by rw [List.length_zip, List.length_drop]; omega)
  rw [er]
  rw [List.length_zip, List.length_drop] at lr
  refine ⟨row, rfl, by omega, fun t => ?_⟩
  by_cases ht : t < f.length
  · have h1 : t < row.length := by omega
    have h2 : t < (rs.drop 1).length := by rw [List.length_drop]; omega
    have h3 : (List.zip f (rs.drop 1))[t]? = some (f[t], (rs.drop 1)[t]) := by
      rw [List.getElem?_zip_eq_some]
      exact ⟨List.getElem?_eq_getElem ht, List.getElem?_eq_getElem h2⟩
    have := gr t _ _ h3 (List.getElem?_eq_getElem h1)
    rw [co_get h1, co_get ht, this]
    exact ⟨far * ((rs.drop 1)[t] - 50000000), by dsimp only; rw [Int.mul_assoc]⟩
  · rw [co_out (by omega), co_out (by omega)]; exact Cg.refl _ _
noncomputable def m_is_mod (found1 : (List Int)) (p2 : Int) : M Bool :=
  (M.bind (m_is_poly found1) fun z8 => if z8 = true then (M.bind (mapC (fun place3 => (if (decide (0 ≤ place3)) = true then ok (decide (place3 < p2)) else ok false)) found1) fun u7 => ok (List.all u7 id)) else ok false)
theorem is_mod_ok {xs : List Int} {p : Int} (h : Cut xs) (hr : Red p xs) (hl : xs.length ≤ 16777216) : m_is_mod xs p = ok true := by
  unfold m_is_mod
  rw [is_poly_ok h hl, bind_ok, if_pos rfl, mapC_ok (g := fun _ => true) (fun x hx => by
    obtain ⟨h0, h1⟩ := hr.mem x hx
    rw [if_pos (decide_eq_true h0), decide_eq_true h1]) (by rw [sizeLineE]; exact hl), bind_ok]
  congr 2
  simp
noncomputable def m_lmod_times (f1 : (List Int)) (g2 : (List Int)) (p3 : Int) : M (List Int) :=
  (M.bind (prep [0] ((List.length f1 : Int) + (List.length g2 : Int))) fun raw4 => (M.bind (M.bind (prangeI (List.length f1 : Int)) fun xs => loopM (fun (raw5 : (List Int)) i6 => (M.bind (M.bind (prangeI (List.length g2 : Int)) fun xs => loopM (fun (raw7 : (List Int)) j8 => (M.bind (M.bind (M.bind (M.bind (pget raw7 (i6 + j8)) fun u11 => M.bind (M.bind (pget f1 i6) fun u9 => M.bind (pget g2 j8) fun u10 => (pmul u9 u10)) fun u12 => ok (u11 + u12)) fun u13 => (pmod u13 p3)) fun u15 => (pset raw7 (i6 + j8) u15)) fun raw14 => ok (raw14))) (raw5) xs) fun raw16 => ok (raw16))) (raw4) xs) fun raw17 => (m_cut raw17)))
theorem lmod_times_ok {f g : List Int} {p : Int} {a b : Nat} (hp : 0 < p) (hf : f.length ≤ 1000000) (hg : g.length ≤ 1000000) (hfa : ∀ x ∈ f, Sm a x) (hgb : ∀ x ∈ g, Sm b x) (hab : a + b < 1000000) : m_lmod_times f g p = ok (modP p (mulP f g)) := by
  unfold m_lmod_times
  have e : ((f.length : Int) + (g.length : Int)) = ((f.length + g.length : Nat) : Int) := by omega
  rw [e, prep0 (by omega), bind_ok]
  simp only [prangeI_nat (show f.length < 2 ^ 62 by omega), prangeI_nat (show g.length < 2 ^ 62 by omega), bind_okS, bind_ret]
  obtain ⟨c, e1, h1, h2, h3⟩ := loopM_inv (f := fun (raw5 : (List Int)) i6 => loopM (fun (raw7 : (List Int)) j8 => (M.bind (M.bind (M.bind (pget raw7 (i6 + j8)) fun u11 => M.bind (M.bind (pget f i6) fun u9 => M.bind (pget g j8) fun u10 => (pmul u9 u10)) fun u12 => ok (u11 + u12)) fun u13 => (pmod u13 p)) fun u15 => (pset raw7 (i6 + j8) u15))) (raw5) (rangeL 0 g.length)) (fun i (c : List Int) => c.length = f.length + g.length ∧ Red p c ∧ CgP p c (mulP (f.take i) g)) (xs := rangeL 0 f.length) (c := List.replicate (f.length + g.length) 0)
    ⟨by simp, fun t => by rw [co_rep0]; exact ⟨by omega, hp⟩, fun t => by rw [co_rep0]; exact Cg.refl _ _⟩ (fun i c x hx ⟨h1, h2, h3⟩ => by
      obtain ⟨rfl, hi⟩ := range_get hx
      obtain ⟨c', e', l', k'⟩ := setInto (N := f.length + g.length) (i := i) (n := g.length) (L := c) (h := fun j x => (x + co f i * co g j) % p) (step := fun (raw7 : (List Int)) j8 => (M.bind (M.bind (M.bind (pget raw7 ((i : Int) + j8)) fun u11 => M.bind (M.bind (pget f (i : Int)) fun u9 => M.bind (pget g j8) fun u10 => (pmul u9 u10)) fun u12 => ok (u11 + u12)) fun u13 => (pmod u13 p)) fun u15 => (pset raw7 ((i : Int) + j8) u15))) h1 (by omega) (fun c j hc hj => by
        rw [show (i : Int) + (j : Int) = ((i + j : Nat) : Int) by omega, pget_co (by omega), bind_ok, pget_co hi, bind_ok, pget_co hj, bind_ok, mul_sm (hfa _ (co_mem hi)) (hgb _ (co_mem hj)) hab, bind_ok, bind_ok, pmod_pos hp, bind_ok, pset_nat (by omega)])
      refine ⟨c', e', l', fun t => ?_, fun t => ?_⟩
      · rw [k']
        split
        · exact ⟨Int.emod_nonneg _ (by omega), Int.emod_lt_of_pos _ hp⟩
        · exact h2 t
      · rw [k', List.take_succ_eq_append_getElem hi, mulP_snoc, List.length_take, Nat.min_eq_left (by omega), ← co_get hi]
        by_cases ht : i ≤ t
        · rw [if_pos ht]
          by_cases ht2 : t < i + g.length
          · rw [if_pos ⟨ht, ht2⟩]; exact (Cg.mod p _).trans ((h3 t).add (Cg.refl p _))
          · rw [if_neg (by omega), co_out (xs := g) (by omega)]; exact (h3 t).trans (Cg.of_eq (by omega))
        · rw [if_neg ht, if_neg (by omega)]; exact (h3 t).trans (Cg.of_eq (by omega)))
  rw [rangeL_len, List.take_length] at h3
  rw [e1, bind_ok, cut_ok]
  congr 1
  exact Cut.eq (cutP_cut _) (modP_cut _ _) fun t => by rw [cutP_co, modP_co]; exact (Cg.iff.mp (h3 t)).symm ▸ (Int.emod_eq_of_lt (h2 t).1 (h2 t).2).symm
end T
set_option maxRecDepth 100000
namespace T
open PySem PySem.Spec PyProof.Rows L2
/-! ### what divides a row modulo p -/
section
variable {p : Int} {C F F' G H : List Int}
end
end T
set_option maxRecDepth 100000
namespace T
open PySem PySem.Spec PyProof.Rows L2
/-! ### the determinant by the program -/
noncomputable def m_det_L : Nat → (List (List Int)) →  M Int
  | 0, _ => stuck
  | n + 1, table1 =>
  (M.bind (ok (decide ((List.length table1 : Int) = 1))) fun z2 => if z2 = true then (M.bind (pget table1 0) fun u3 => (pget u3 0)) else (M.bind (ok 0) fun total4 => (M.bind (M.bind (prangeI (List.length table1 : Int)) fun xs => loopM (fun (total5 : Int) i6 => (M.bind (M.bind (M.bind (pget table1 i6) fun u7 => (pget u7 0)) fun u8 => ok ((!decide (u8 = 0)))) fun z9 => if z9 = true then (M.bind (M.bind (pcat (cutL table1 none (some i6)) (cutL table1 (some (i6 + 1)) none)) fun xs => mapC (fun row11 => (ok (cutL row11 (some 1) none))) xs) fun lower10 => (M.bind (M.bind (M.bind (pget table1 i6) fun u13 => (pget u13 0)) fun u14 => M.bind (m_det_L n lower10) fun u15 => (pmul u14 u15)) fun part12 => (M.bind (M.bind (ok (decide ((i6 % 2) = 1))) fun z16 => if z16 = true then (M.bind (ok (-part12)) fun part17 => ok (part17)) else ok (part12)) fun part18 => (M.bind (ok (total5 + part18)) fun total19 => ok (total19))))) else ok (total5))) (total4) xs) fun total20 => (ok total20))))
noncomputable def m_det (table1 : (List (List Int))) : M Int :=
  (M.bind (ok (decide ((List.length table1 : Int) = 1))) fun z2 => if z2 = true then (M.bind (pget table1 0) fun u3 => (pget u3 0)) else (M.bind (ok 0) fun total4 => (M.bind (M.bind (prangeI (List.length table1 : Int)) fun xs => loopM (fun (total5 : Int) i6 => (M.bind (M.bind (M.bind (pget table1 i6) fun u7 => (pget u7 0)) fun u8 => ok ((!decide (u8 = 0)))) fun z9 => if z9 = true then (M.bind (M.bind (pcat (cutL table1 none (some i6)) (cutL table1 (some (i6 + 1)) none)) fun xs => mapC (fun row11 => (ok (cutL row11 (some 1) none))) xs) fun lower10 => (M.bind (M.bind (M.bind (pget table1 i6) fun u13 => (pget u13 0)) fun u14 => M.bind (m_det_L 5 lower10) fun u15 => (pmul u14 u15)) fun part12 => (M.bind (M.bind (ok (decide ((i6 % 2) = 1))) fun z16 => if z16 = true then (M.bind (ok (-part12)) fun part17 => ok (part17)) else ok (part12)) fun part18 => (M.bind (ok (total5 + part18)) fun total19 => ok (total19))))) else ok (total5))) (total4) xs) fun total20 => (ok total20))))
end T
set_option maxRecDepth 100000
namespace T
open PySem PySem.Spec PyProof.Rows L2
/-! ### the measure of a polynomial of degree 2, 3 or 4 -/
def c_LARGEST : Int := 499
noncomputable def m_check_poly (poly1 : (List Int)) : M Unit :=
  (M.bind (M.bind (if (decide (3 ≤ (List.length poly1 : Int))) = true then ok (decide ((List.length poly1 : Int) ≤ 5)) else ok false) fun z7 => if z7 = true then (M.bind (pget poly1 (-1)) fun u6 => ok (decide (u6 = 1))) else ok false) fun good2 => (M.bind (M.bind (ok good2) fun z8 => if z8 = true then (M.bind (M.bind (ok poly1) fun xs => loopM (fun (good9 : Bool) place10 => (M.bind (M.bind (ok (decide (place10 < (-c_LARGEST)))) fun z11 => if z11 = true then ok true else (ok (decide (c_LARGEST < place10)))) fun z12 => if z12 = true then (M.bind (ok false) fun good13 => ok (good13)) else ok (good9))) (good2) xs) fun good14 => ok (good14)) else ok (good2)) fun good15 => (M.bind (ok (!good15)) fun z16 => if z16 = true then (exc ⟨"NoPolynomial", []⟩) else ok ())))
noncomputable def m_power_sums (poly1 : (List Int)) (many2 : Int) : M (List Int) :=
  (M.bind (ok ((List.length poly1 : Int) - 1)) fun degree3 => (M.bind (ok [degree3]) fun sums4 => (M.bind (M.bind (prange2 1 many2) fun xs => loopM (fun (sums5 : (List Int)) k6 => (M.bind (ok 0) fun total7 => (M.bind (M.bind (prange2 1 (min k6 (degree3 + 1))) fun xs => loopM (fun (total8 : Int) i9 => (M.bind (M.bind (M.bind (pget poly1 (degree3 - i9)) fun u11 => M.bind (pget sums5 (k6 - i9)) fun u12 => (pmul u11 u12)) fun u13 => ok (total8 - u13)) fun total10 => ok (total10))) (total7) xs) fun total14 => (M.bind (M.bind (ok (decide (k6 ≤ degree3))) fun z15 => if z15 = true then (M.bind (M.bind (M.bind (pget poly1 (degree3 - k6)) fun u17 => (pmul k6 u17)) fun u18 => ok (total14 - u18)) fun total16 => ok (total16)) else ok (total14)) fun total19 => (M.bind (papp sums5 total19) fun sums20 => ok (sums20)))))) (sums4) xs) fun sums21 => ok sums21)))
noncomputable def m_measure (poly1 : (List Int)) : M Int :=
  (M.bind (M.bind (m_check_poly poly1) fun _ => ok ()) fun _ => (M.bind (ok ((List.length poly1 : Int) - 1)) fun degree2 => (M.bind (m_power_sums poly1 ((2 * degree2) - 1)) fun sums3 => (M.bind (ok ([] : List (List Int))) fun rows4 => (M.bind (M.bind (prangeI degree2) fun xs => loopM (fun (rows5 : (List (List Int))) i6 => (M.bind (M.bind (M.bind (prangeI degree2) fun xs => mapC (fun j7 => (pget sums3 (i6 + j7))) xs) fun u8 => (papp rows5 u8)) fun rows9 => ok (rows9))) (rows4) xs) fun rows10 => (m_det rows10))))))
section
variable {α : Type} (x0 x1 x2 x3 x4 x5 x6 : α) (l : List α)
theorem pg0 : pget (x0 :: l) 0 = ok x0 := pget_some (i := 0) rfl
theorem pg1 : pget (x0 :: x1 :: l) 1 = ok x1 := pget_some (i := 1) rfl
end
theorem r2 (n : Nat) (h : n < 1000) : prange2 1 (n : Int) = ok (rangeL 1 (n - 1)) := by
  have e : (2 : Int) ^ 62 = 4611686018427387904 := by decide
  refine (grd_pos ?_ _).trans ?_
  · rw [e]; omega
  · congr 2; omega
theorem pa {x : Int} {l : List Int} (h : l.length < 100) : papp l x = ok (l ++ [x]) := papp_ok (by omega)
theorem s0 : Sm 0 0 := Nat.zero_le _
end T
set_option maxRecDepth 100000
namespace T
open PySem PySem.Spec PyProof.Rows L2
/-! ### a mirror that ends, and what it ends with -/
def Tot {α : Type} (m : M α) (P : α → Prop) : Prop := ∃ v, m = ok v ∧ P v
section
variable {α β C ρ θ : Type}
theorem Tot.ok {P : α → Prop} {v : α} (h : P v) : Tot (T.ok v) P := ⟨v, rfl, h⟩
theorem Tot.of {m : M α} {v : α} (e : m = T.ok v) : Tot m (· = v) := ⟨v, e, rfl⟩
theorem Tot.bind {m : M α} {f : α → M β} {P : α → Prop} {Q : β → Prop} (h : Tot m P) (k : ∀ v, P v → Tot (f v) Q) : Tot (m.bind f) Q := by
  obtain ⟨v, e, p⟩ := h
  rw [e, bind_ok]; exact k v p
theorem Tot.mono {m : M α} {P Q : α → Prop} (h : Tot m P) (k : ∀ v, P v → Q v) : Tot m Q := by
  obtain ⟨v, e, p⟩ := h
  exact ⟨v, e, k v p⟩
theorem Tot.ite {c : Prop} [Decidable c] {a b : M α} {P : α → Prop} (h1 : c → Tot a P) (h2 : ¬ c → Tot b P) : Tot (if c then a else b) P := by
  by_cases h : c
  · rw [if_pos h]; exact h1 h
  · rw [if_neg h]; exact h2 h
theorem Tot.loopM {f : C → α → M C} (I : C → Prop) {xs : List α} {c : C} (h0 : I c) (hs : ∀ c x, x ∈ xs → I c → Tot (f c x) I) : Tot (T.loopM f c xs) I := by
  induction xs generalizing c with
  | nil => exact ⟨c, rfl, h0⟩
  | cons x xs ih =>
    obtain ⟨c1, e1, p1⟩ := hs c x List.mem_cons_self h0
    obtain ⟨c2, e2, p2⟩ := ih p1 fun c y hy => hs c y (List.mem_cons_of_mem _ hy)
    exact ⟨c2, by rw [loopM_cons, e1, bind_ok, e2], p2⟩
theorem Tot.loopMi {f : C → α → M C} (I : Nat → C → Prop) {xs : List α} {c : C} (h0 : I 0 c) (hs : ∀ (i : Nat) c x, xs[i]? = some x → I i c → Tot (f c x) (I (i + 1))) : Tot (T.loopM f c xs) (I xs.length) := by
  obtain ⟨c', e, p⟩ := loopM_inv I h0 hs
  exact ⟨c', e, p⟩
def FlP (I : C → Prop) (A : ρ → Prop) : Fl C ρ → Prop
  | .nx c => I c
  | .rt a => A a
theorem Tot.loopF {f : C → α → M (Fl C ρ)} (I : C → Prop) (A : ρ → Prop) {xs : List α} {c : C} (h0 : I c) (hs : ∀ c x, x ∈ xs → I c → Tot (f c x) (FlP I A)) : Tot (T.loopF f c xs) (FlP I A) := by
  induction xs generalizing c with
  | nil => exact ⟨.nx c, rfl, h0⟩
  | cons x xs ih =>
    obtain ⟨y, e1, p1⟩ := hs c x List.mem_cons_self h0
    show Tot ((f c x).bind (flk fun c => T.loopF f c xs)) (FlP I A)
    rw [e1, bind_ok]
    cases y with
    | rt a => exact ⟨_, rfl, p1⟩
    | nx c1 => exact ih p1 fun c y hy => hs c y (List.mem_cons_of_mem _ hy)
theorem Tot.sq {r : M (Fl C ρ)} {k : C → M θ} {ι : ρ → θ} {I : C → Prop} {A : ρ → Prop} {Q : θ → Prop} (h : Tot r (FlP I A)) (hk : ∀ c, I c → Tot (k c) Q) (hA : ∀ a, A a → Q (ι a)) : Tot (T.sq r k ι) Q := by
  obtain ⟨y, e, p⟩ := h
  unfold T.sq
  rw [e, bind_ok]
  cases y with
  | nx c => exact hk c p
  | rt a => exact ⟨_, rfl, hA a p⟩
theorem Tot.whileM {t : C → M Bool} {b : C → M C} (I : C → Prop) (μ : C → Nat) {c : C} (h0 : I c) (hs : ∀ c, I c → Tot (t c) fun z => z = true → Tot (b c) fun c' => I c' ∧ μ c' < μ c) : Tot (T.whileM t b c) fun c => I c ∧ t c = T.ok false := by
  obtain ⟨c', e, p, q⟩ := whileM_inv (t := t) (b := b) I μ (fun c hc => by
    obtain ⟨z, e, h⟩ := hs c hc
    cases z with
    | false => exact .inl e
    | true =>
      obtain ⟨c', e2, p, l⟩ := h rfl
      exact .inr ⟨e, c', e2, p, l⟩) h0
  exact ⟨c', e, p, q⟩
theorem Tot.mapC {f : α → M β} {P : β → Prop} {xs : List α} (h : ∀ x ∈ xs, Tot (f x) P) (hl : xs.length ≤ 16777216) : Tot (T.mapC f xs) fun ys => ys.length = xs.length ∧ ∀ y ∈ ys, P y := by
  obtain ⟨ys, e, l, _, m⟩ := mapC_ex (P := fun _ y => P y) h hl
  exact ⟨ys, e, l, fun y hy => (m y hy).elim fun _ h => h.2⟩
theorem Tot.papp {xs : List α} {x : α} (h : xs.length < 16777216) : Tot (T.papp xs x) (· = xs ++ [x]) := .of (papp_ok h)
theorem Tot.pcat {xs ys : List α} (h : xs.length + ys.length ≤ 16777216) : Tot (T.pcat xs ys) (· = xs ++ ys) := .of (pcat_ok h)
theorem psz_ok {xs : List α} (h : xs.length ≤ 16777216) : psz xs = T.ok xs := grd_pos (by rw [sizeLineE]; exact h) _
end
theorem Tot.pmul_r {x y : Int} (h : y.natAbs < 18446744073709551616) : Tot (pmul x y) (· = x * y) := .of (pmul_right (by rw [pow64]; exact h))
theorem Tot.pmul_l {x y : Int} (h : x.natAbs < 18446744073709551616) : Tot (pmul x y) (· = x * y) := .of (pmul_left (by rw [pow64]; exact h))
theorem Tot.pmod {x y : Int} (h : 0 < y) : Tot (pmod x y) fun v => v = x % y ∧ 0 ≤ v ∧ v < y := ⟨_, pmod_pos h, rfl, Int.emod_nonneg _ (by omega), Int.emod_lt_of_pos _ h⟩
theorem mem_rangeL {lo x : Int} {n : Nat} (h : x ∈ rangeL lo n) : lo ≤ x ∧ x < lo + n := by
  obtain ⟨i, hi⟩ := List.getElem?_of_mem h
  rw [rangeL_get] at hi
  by_cases c : i < n
  · rw [if_pos c] at hi
    have := Option.some.inj hi
    omega
  · rw [if_neg c] at hi; cases hi
theorem Tot.prange2 {i j : Int} (h1 : i.natAbs < 1000000000) (h2 : j.natAbs < 1000000000) : Tot (prange2 i j) fun xs => ∀ x ∈ xs, i ≤ x ∧ x < j := by
  have e : (2 : Int) ^ 62 = 4611686018427387904 := by decide
  refine ⟨rangeL i (j - i).toNat, grd_pos (by rw [e]; omega) _, fun x hx => ?_⟩
  have := mem_rangeL hx
  omega
theorem Tot.prangeI {n : Int} (h0 : 0 ≤ n) (h : n < 1000000000) : Tot (prangeI n) fun xs => xs = rangeL 0 n.toNat := by
  obtain ⟨k, rfl⟩ := Int.eq_ofNat_of_zero_le h0
  exact ⟨_, prangeI_nat (by have e : (2 : Nat) ^ 62 = 4611686018427387904 := by decide
                            rw [e]; omega), by simp⟩
end T
set_option maxRecDepth 100000
set_option maxHeartbeats 1000000
namespace T
open PySem PySem.Spec PyProof.Rows L2
/-! ### the ring: that it is made or refused, at every row -/
def c_PRIMES : (List Int) := [2, 3, 5, 7, 11, 13, 17, 19, 23, 29, 31, 37, 41, 43, 47, 53, 59, 61, 67, 71, 73, 79, 83, 89, 97, 101, 103, 107, 109, 113, 127, 131, 137, 139, 149, 151, 157, 163, 167, 173, 179, 181, 191, 193, 197, 199]
def tbl_RingError : List (Str × Bool) := [("RingError", true), ("NoPolynomial", true), ("TooGreat", true), ("NoPrime", true), ("FallsApart", true), ("NotWhole", true)]
noncomputable def m_mod_at (f1 : (List Int)) (x2 : Int) (p3 : Int) : M Int :=
  (M.bind (ok 0) fun value4 => (M.bind (M.bind (ok (List.reverse f1)) fun xs => loopM (fun (value5 : Int) place6 => (M.bind (M.bind (M.bind (pmul value5 x2) fun u8 => ok (u8 + place6)) fun u9 => (pmod u9 p3)) fun value7 => ok (value7))) (value4) xs) fun value10 => (ok value10)))
noncomputable def m_pair_of (left1 : (List Int)) (p2 : Int) : M (Option (List (List Int))) :=
  (M.bind (asRec4 (cutL left1 none (some 4))) fun p3 => (sq (ρ := (Option (List (List Int)))) (M.bind (prange2 1 p2) fun xs => loopF (fun (s4 : Unit) b5 => (M.bind (M.bind (M.bind (m_turned b5 p2) fun u7 => (pmul p3.1 u7)) fun u8 => (pmod u8 p2)) fun d6 => (M.bind (ok ((!decide (b5 = d6)))) fun z9 => if z9 = true then (M.bind (M.bind (M.bind (M.bind (pmul b5 p3.2.2.2) fun u11 => ok (p3.2.1 - u11)) fun u12 => M.bind (m_turned (d6 - b5) p2) fun u13 => (pmul u12 u13)) fun u14 => (pmod u14 p2)) fun a10 => (M.bind (M.bind (M.bind (M.bind (M.bind (M.bind (pmul a10 (p3.2.2.2 - a10)) fun u15 => ok (u15 + b5)) fun u16 => ok (u16 + d6)) fun u17 => ok (u17 - p3.2.2.1)) fun u18 => (pmod u18 p2)) fun u19 => ok (decide (u19 = 0))) fun z20 => if z20 = true then (M.bind (M.bind (M.bind (M.bind (pmod (p3.2.2.2 - a10) p2) fun u21 => psz [d6, u21, 1]) fun u22 => psz [[b5, a10, 1], u22]) fun u23 => ok (some u23)) fun a24 => ok (Fl.rt a24)) else ok (Fl.nx ()))) else (M.bind (M.bind (M.bind (M.bind (pmul b5 p3.2.2.2) fun u25 => ok (p3.2.1 - u25)) fun u26 => (pmod u26 p2)) fun u27 => ok (decide (u27 = 0))) fun z28 => if z28 = true then (sq (ρ := (Option (List (List Int)))) (M.bind (prangeI p2) fun xs => loopF (fun (s29 : Unit) a30 => (M.bind (M.bind (M.bind (M.bind (M.bind (M.bind (pmul a30 (p3.2.2.2 - a30)) fun u31 => ok (u31 + b5)) fun u32 => ok (u32 + d6)) fun u33 => ok (u33 - p3.2.2.1)) fun u34 => (pmod u34 p2)) fun u35 => ok (decide (u35 = 0))) fun z36 => if z36 = true then (M.bind (M.bind (M.bind (M.bind (pmod (p3.2.2.2 - a30) p2) fun u37 => psz [d6, u37, 1]) fun u38 => psz [[b5, a30, 1], u38]) fun u39 => ok (some u39)) fun a40 => ok (Fl.rt a40)) else ok (Fl.nx ()))) () xs) (fun s41 => ok (Fl.nx ())) (fun a => Fl.rt a)) else ok (Fl.nx ()))))) () xs) (fun s42 => (ok none)) (fun a => a)))
noncomputable def m_rootless (left1 : (List Int)) (p2 : Int) : M (List ((List Int) × Int)) :=
  (M.bind (ok none) fun pair3 => (M.bind (M.bind (ok (decide ((List.length left1 : Int) = 5))) fun z4 => if z4 = true then (M.bind (m_pair_of left1 p2) fun pair5 => ok (pair5)) else ok (pair3)) fun pair6 => (M.bind (ok (Option.isNone pair6)) fun z7 => if z7 = true then (ok [(left1, 1)]) else (M.bind (M.bind (M.bind (unO pair6) fun u8 => (pget u8 0)) fun u10 => M.bind (M.bind (unO pair6) fun u9 => (pget u9 1)) fun u11 => ok (decide (u10 = u11))) fun z12 => if z12 = true then (M.bind (M.bind (M.bind (unO pair6) fun u13 => (pget u13 0)) fun u14 => ok (u14, 2)) fun u15 => psz [u15]) else (M.bind (M.bind (unO pair6) fun u16 => (psortT u16)) fun xs => mapC (fun g17 => (ok (g17, 1))) xs)))))
noncomputable def m_split_by (poly1 : (List Int)) (p2 : Int) : M (List ((List Int) × Int)) :=
  (M.bind (ok (!decide (p2 ∈ c_PRIMES))) fun z3 => if z3 = true then (exc ⟨"NoPrime", []⟩) else (M.bind (m_mod_poly poly1 p2) fun left4 => (M.bind (ok ([] : List ((List Int) × Int))) fun parts5 => (M.bind (M.bind (prangeI p2) fun xs => loopM (fun (s6 : (List Int) × (List ((List Int) × Int))) low7 => (M.bind (ok 0) fun often8 => (M.bind (whileM (fun (s9 : (List Int) × Int) => (M.bind (ok (decide (1 < (List.length s9.1 : Int)))) fun z11 => if z11 = true then (M.bind (m_mod_at s9.1 (-low7) p2) fun u10 => ok (decide (u10 = 0))) else ok false)) (fun (s9 : (List Int) × Int) => (M.bind (M.bind (m_mod_parted s9.1 [low7, 1] p2) fun u13 => ok u13.1) fun left12 => (M.bind (ok (s9.2 + 1)) fun often14 => ok (left12, often14)))) (s6.1, often8)) fun s15 => (M.bind (ok (decide (0 < s15.2))) fun z16 => if z16 = true then (M.bind (papp s6.2 ([low7, 1], s15.2)) fun parts17 => ok (s15.1, parts17)) else ok (s15.1, s6.2))))) (left4, parts5) xs) fun s18 => (M.bind (M.bind (ok (decide (1 < (List.length s18.1 : Int)))) fun z19 => if z19 = true then (M.bind (M.bind (m_rootless s18.1 p2) fun u21 => (pcat s18.2 u21)) fun parts20 => ok (parts20)) else ok (s18.2)) fun parts22 => ok parts22)))))
/-- a ring's polynomial -/
def Gd (f : List Int) : Prop := ∃ g : List Int, f = g ++ [1] ∧ 2 ≤ g.length ∧ g.length ≤ 4 ∧ ∀ x ∈ g, x.natAbs ≤ 499
theorem natAbs_mul_le {x y : Int} {A B : Nat} (hx : x.natAbs ≤ A) (hy : y.natAbs ≤ B) : (x * y).natAbs ≤ A * B := by rw [Int.natAbs_mul]; exact Nat.mul_le_mul hx hy
theorem unO_some {α : Type} (a : α) : unO (some a) = ok a := rfl
end T
set_option maxRecDepth 100000
set_option maxHeartbeats 1000000
namespace T
open PySem PySem.Spec PyProof.Rows L2
theorem primes_same : c_PRIMES = primesL := rfl
theorem pr_bd {p : Int} (h : p ∈ primesL) : 1 < p ∧ p < 200 := ⟨(primes_fact p h).1, (primes_fact p h).2.1⟩
theorem mod_at_tot {f : List Int} {x p : Int} (hp : 0 < p) (hx : x.natAbs < 18446744073709551616) : Tot (m_mod_at f x p) fun _ => True := by
  unfold m_mod_at
  simp only [bind_okS, bind_bind]
  refine .bind (P := fun _ => True) (.loopM (fun _ => True) trivial fun c y _ _ => ?_) fun _ _ => .ok trivial
  exact .bind (.pmul_r hx) fun _ _ => .bind (.pmod hp) fun _ _ => .ok trivial
/-- a step of the split: a root is parted off -/
theorem part_root {f : List Int} {low p : Int} (h : p ∈ primesL) (hl : 0 ≤ low) (hl2 : low < p) (hc : Cut f) (hr : Red p f) (h1 : 1 < f.length) (h5 : f.length ≤ 1000) :
    Tot (m_mod_parted f [low, 1] p) fun r => Cut r.1 ∧ Red p r.1 ∧ r.1.length < f.length := by
  obtain ⟨p1, p2⟩ := pr_bd h
  have hG : modP p [low, 1] = [low, 1] := by
    refine modP_eq (by omega) (.inr ⟨1, [low], rfl, by decide⟩) (Red.of (by omega) fun x hx => ?_) (CgP.refl _ _)
    simp only [List.mem_cons, List.not_mem_nil, or_false] at hx
    rcases hx with rfl | rfl <;> omega
  have hc1 : co [low, 1] 1 = 1 := rfl
  obtain ⟨Q, R, e, cQ, cR, rQ, rR, lR, lQ, eq⟩ := mod_parted_ok (f := f) (g := [low, 1]) (G := [low, 1]) (d := 1) p1 (by omega) hG rfl (by
    rw [hc1, Int.emod_eq_of_lt (by decide) p1]
    exact fun d h1 _ => h1) (by omega) (by show 2 ≤ 100000; decide)
  refine ⟨(Q, R), e, cQ, rQ, ?_⟩
  dsimp only
  by_cases hq : Q.length < f.length
  · exact hq
  · exfalso
    have hlen : Q.length = f.length := by omega
    have hne : Q ≠ [] := by intro z; rw [z] at hlen; simp at hlen; omega
    have top := mulP_top [low, 1] (by show 0 < 2; decide) Q (by omega)
    have e1 : Q.length + ([low, 1] : List Int).length - 2 = f.length := by rw [hlen]; simp
    rw [e1] at top
    have hcong := eq f.length
    rw [addP_co, top, co_out (xs := f) (Nat.le_refl _), co_out (xs := R) (by omega), Int.add_zero] at hcong
    have hlast : co [low, 1] (([low, 1] : List Int).length - 1) = 1 := rfl
    rw [hlast, Int.mul_one, hlen] at hcong
    have hz := cQ.last hne
    rw [hlen] at hz
    have := hcong.small (by omega) (by omega) (rQ _).1 (rQ _).2
    exact hz this.symm
/-- a factor as it is told -/
def Fac (p : Int) (g : List Int) : Prop := 2 ≤ g.length ∧ g.length ≤ 5 ∧ ∀ x ∈ g, 0 ≤ x ∧ x < p
theorem pair_of_tot {f : List Int} {p : Int} (h : p ∈ primesL) (hr : Red p f) (h5 : f.length = 5) : Tot (m_pair_of f p) fun o => ∀ l, o = some l → ∃ x y, l = [x, y] ∧ x.length = 3 ∧ y.length = 3 ∧ Fac p x ∧ Fac p y := by
  obtain ⟨p1, p2⟩ := pr_bd h
  match f, h5, hr with
  | [a, b, c, d, e], _, hr =>
  have hm := hr.mem
  have ha := hm a (by simp)
  have hb := hm b (by simp)
  have hc := hm c (by simp)
  have hd := hm d (by simp)
  unfold m_pair_of
  rw [show asRec4 (cutL [a, b, c, d, e] none (some 4)) = ok (a, b, c, d) from rfl, bind_ok]
  have tn : ∀ x : Int, x % p ≠ 0 → ∃ t, m_turned x p = ok t ∧ 0 ≤ t ∧ t < p := fun x hx => by
    obtain ⟨t, e, t0, t1, _⟩ := turned_ok (a := x) (p := p) p1 (by omega) ((isP_of h).2.2 x hx)
    exact ⟨t, e, t0, t1⟩
  refine .sq (I := fun _ => True) (A := fun o : Option (List (List Int)) => ∀ l, o = some l → ∃ x y, l = [x, y] ∧ x.length = 3 ∧ y.length = 3 ∧ Fac p x ∧ Fac p y) ?_ (fun _ _ => .ok fun l hl => nomatch hl) fun _ h => h
  refine .bind (.prange2 (by omega) (by omega)) fun xs hxs => .loopF _ _ trivial fun _ z hz _ => ?_
  have hz' := hxs z hz
  have fin : ∀ w x y : Int, 0 ≤ w → w < p → 0 ≤ x → x < p → 0 ≤ y → y < p → ∀ l, some [[z, w, 1], [x, y, 1]] = some l → ∃ x y, l = [x, y] ∧ x.length = 3 ∧ y.length = 3 ∧ Fac p x ∧ Fac p y := fun w x y h1 h2 h3 h4 h5 h6 l hl => by
    cases hl
    refine ⟨_, _, rfl, rfl, rfl, ⟨by simp, by simp, fun q hq => ?_⟩, ⟨by simp, by simp, fun q hq => ?_⟩⟩
    · simp only [List.mem_cons, List.not_mem_nil, or_false] at hq
      rcases hq with rfl | rfl | rfl <;> omega
    · simp only [List.mem_cons, List.not_mem_nil, or_false] at hq
      rcases hq with rfl | rfl | rfl <;> omega
  obtain ⟨t, et, t0, t1⟩ := tn z (by rw [Int.emod_eq_of_lt (by omega) (by omega)]; omega)
  simp only [bind_bind, bind_okS, et]
  refine .bind (.pmul_l (by omega)) fun u _ => .bind (.pmod (by omega)) fun v hv => ?_
  refine .ite (fun hne => ?_) fun _ => ?_
  · have hvz : (v - z) % p ≠ 0 := by
      have hne' : z ≠ v := by intro k; simp [k] at hne
      intro k
      have := Int.emod_emod_of_dvd
      obtain ⟨q, hq⟩ := Int.dvd_of_emod_eq_zero k
      have h1 : q < 1 := by
        by_cases c : q < 1
        · exact c
        · have : p * 1 ≤ p * q := Int.mul_le_mul_of_nonneg_left (by omega) (by omega)
          omega
      have h2 : -1 < q := by
        by_cases c : -1 < q
        · exact c
        · have : p * q ≤ p * (-1) := Int.mul_le_mul_of_nonneg_left (by omega) (by omega)
          omega
      have : q = 0 := by omega
      subst this
      omega
    obtain ⟨t', et', t0', t1'⟩ := tn (v - z) hvz
    refine .bind (.pmul_l (by omega)) fun _ _ => ?_
    rw [et', bind_ok]
    refine .bind (.pmul_r (by omega)) fun _ _ => .bind (.pmod (by omega)) fun w hw => ?_
    refine .bind (.pmul_l (by omega)) fun _ _ => .bind (.pmod (by omega)) fun _ _ => .ite (fun _ => ?_) fun _ => .ok trivial
    refine .bind (.pmod (by omega)) fun y hy => ?_
    rw [psz_ok (by simp), bind_ok, psz_ok (by simp), bind_ok]
    exact .ok (fin w v y hw.2.1 hw.2.2 hv.2.1 hv.2.2 hy.2.1 hy.2.2)
  · refine .bind (.pmul_l (by omega)) fun _ _ => .bind (.pmod (by omega)) fun _ _ => .ite (fun _ => ?_) fun _ => .ok trivial
    refine .sq (I := fun _ => True) (A := fun o : Option (List (List Int)) => ∀ l, o = some l → ∃ x y, l = [x, y] ∧ x.length = 3 ∧ y.length = 3 ∧ Fac p x ∧ Fac p y) ?_ (fun _ _ => .ok trivial) fun _ h => h
    refine .bind (.prangeI (by omega) (by omega)) fun ys hys => .loopF _ _ trivial fun _ w hw _ => ?_
    subst hys
    have hw := mem_rangeL hw
    refine .bind (.pmul_l (by omega)) fun _ _ => .bind (.pmod (by omega)) fun _ _ => .ite (fun _ => ?_) fun _ => .ok trivial
    refine .bind (.pmod (by omega)) fun y hy => ?_
    rw [psz_ok (by simp), bind_ok, psz_ok (by simp), bind_ok]
    exact .ok (fin w v y (by omega) (by omega) hv.2.1 hv.2.2 hy.2.1 hy.2.2)
theorem sortOk_of {xs : List (List Int)} {d : Nat} (h64 : xs.length < 64) (hd : 1 ≤ d) (hne : xs ≠ []) (hall : ∀ x ∈ xs, x.length = d ∧ ∀ m ∈ x, 0 ≤ m ∧ m < 1000) : sortOk xs = true := by
  cases xs with
  | nil => exact absurd rfl hne
  | cons y ys =>
    have hy : y.length = d := (hall y List.mem_cons_self).1
    have e : ((y :: ys).headD [0]).length = d := hy
    unfold sortOk
    refine Bool.and_eq_true_iff.mpr ⟨Bool.and_eq_true_iff.mpr ⟨decide_eq_true h64, decide_eq_true (by omega)⟩, List.all_eq_true.mpr fun x hx => Bool.and_eq_true_iff.mpr ⟨decide_eq_true ((hall x hx).1.trans e.symm), List.all_eq_true.mpr fun m hm => ?_⟩⟩
    exact Bool.and_eq_true_iff.mpr ⟨decide_eq_true ((hall x hx).2 m hm).1, decide_eq_true ((hall x hx).2 m hm).2⟩
theorem sortOk_pair {p : Int} {x y : List Int} (h2 : p < 200) (hx : x.length = 3) (hy : y.length = 3) (fx : Fac p x) (fy : Fac p y) : sortOk [x, y] = true := by
  refine sortOk_of (d := 3) (by show 2 < 64; decide) (by decide) (by simp) fun z hz => ?_
  simp only [List.mem_cons, List.not_mem_nil, or_false] at hz
  rcases hz with rfl | rfl
  · exact ⟨hx, fun m hm => ⟨(fx.2.2 m hm).1, by have := (fx.2.2 m hm).2; omega⟩⟩
  · exact ⟨hy, fun m hm => ⟨(fy.2.2 m hm).1, by have := (fy.2.2 m hm).2; omega⟩⟩
theorem sortT_perm (xs : List (List Int)) : (sortT xs).Perm xs := List.mergeSort_perm _ _
def Parts (p : Int) (n : Nat) (l : List (List Int × Int)) : Prop := l.length ≤ n ∧ ∀ g ∈ l, Fac p g.1
theorem rootless_tot {f : List Int} {p : Int} (h : p ∈ primesL) (hr : Red p f) (h2 : 2 ≤ f.length) (h5 : f.length ≤ 5) : Tot (m_rootless f p) (Parts p 2) := by
  obtain ⟨p1, p2⟩ := pr_bd h
  unfold m_rootless
  have ff : Fac p f := ⟨h2, h5, hr.mem⟩
  rw [bind_ok]
  refine .bind (P := fun o : Option (List (List Int)) => ∀ l, o = some l → ∃ x y, l = [x, y] ∧ x.length = 3 ∧ y.length = 3 ∧ Fac p x ∧ Fac p y) ?_ fun o ho => ?_
  · rw [bind_ok]
    refine .ite (fun h5 => ?_) fun _ => .ok fun l hl => nomatch hl
    rw [bind_ret]
    exact pair_of_tot h hr (by have := of_decide_eq_true h5; omega)
  · rw [bind_ok]
    cases o with
    | none => exact .ok ⟨by simp, fun g hg => by simp at hg; subst hg; exact ff⟩
    | some l =>
      obtain ⟨x, y, rfl, hx, hy, fx, fy⟩ := ho _ rfl
      rw [if_neg (show ¬ (some [x, y]).isNone = true from fun z => nomatch z)]
      simp only [unO_some, bind_okS, pg0, pg1]
      refine .ite (fun _ => ?_) fun _ => ?_
      · rw [psz_ok (by simp)]
        exact .ok ⟨by simp, fun g hg => by simp at hg; subst hg; exact fx⟩
      · unfold psortT
        rw [grd_pos (sortOk_pair p2 hx hy fx fy), bind_ok]
        have hp := sortT_perm [x, y]
        have hlen : (sortT [x, y]).length = 2 := hp.length_eq
        refine (Tot.mapC (P := fun g : List Int × Int => Fac p g.1) (fun g hg => .ok ?_) (by omega)).mono fun l hl => ⟨by omega, hl.2⟩
        have := hp.subset hg
        simp only [List.mem_cons, List.not_mem_nil, or_false] at this
        rcases this with rfl | rfl
        · exact fx
        · exact fy
theorem mem_primes {p : Int} (h : p ∈ primesL) : (!decide (p ∈ c_PRIMES)) = false := by rw [primes_same, decide_eq_true h]; rfl
theorem split_by_tot {f : List Int} {p : Int} (h : p ∈ primesL) (hf : f.length ≤ 5) : Tot (m_split_by f p) (Parts p 300) := by
  obtain ⟨p1, p2⟩ := pr_bd h
  unfold m_split_by
  rw [mem_primes h, bind_ok, if_neg (by decide), mod_poly_ok (by omega) (by omega), bind_ok, bind_ok]
  have l0 := modP_len p f
  refine .bind (P := fun s : List Int × List (List Int × Int) => (Cut s.1 ∧ Red p s.1 ∧ s.1.length ≤ 5) ∧ Parts p 200 s.2) ?_ fun s hs => ?_
  · refine .bind (.prangeI (by omega) (by omega)) fun xs hxs => ?_
    subst hxs
    refine (Tot.loopMi (fun i (s : List Int × List (List Int × Int)) => (Cut s.1 ∧ Red p s.1 ∧ s.1.length ≤ 5) ∧ Parts p i s.2) (c := (modP p f, ([] : List (List Int × Int)))) ⟨⟨modP_cut p f, modP_red (by omega) f, (by show (modP p f).length ≤ 5; omega)⟩, (by show 0 ≤ 0; omega), (fun g hg => nomatch hg)⟩ fun i s low hlow hs => ?_).mono fun s hs => ⟨hs.1, by have := hs.2.1; rw [rangeL_len] at this; omega, hs.2.2⟩
    have hi := (List.getElem?_eq_some_iff.mp hlow).1
    rw [rangeL_len] at hi
    have hlow := mem_rangeL (List.mem_of_getElem? hlow)
    obtain ⟨⟨c0, r0, l0⟩, n0, g0⟩ := hs
    rw [bind_ok]
    refine .bind (Tot.whileM (fun s : List Int × Int => Cut s.1 ∧ Red p s.1 ∧ s.1.length ≤ 5) (fun s => s.1.length) ⟨c0, r0, l0⟩ fun c hc => ?_) fun c hc => ?_
    · rw [bind_ok]
      by_cases hl1 : 1 < c.1.length
      · rw [if_pos (decide_eq_true (show (1 : Int) < (c.1.length : Int) by omega))]
        refine (Tot.bind (mod_at_tot (by omega) (by omega)) fun v _ => .ok (P := fun _ => True) trivial).mono fun z _ _ => ?_
        simp only [bind_bind, bind_okS]
        refine .bind (part_root h (by omega) (by omega) hc.1 hc.2.1 hl1 (by omega)) fun r hr => ?_
        exact .ok ⟨⟨hr.1, hr.2.1, by have := hr.2.2; dsimp only; omega⟩, hr.2.2⟩
      · rw [decide_eq_false (show ¬ (1 : Int) < (c.1.length : Int) by omega), if_neg (by decide)]
        exact .ok fun z => nomatch z
    · rw [bind_ok]
      refine .ite (fun _ => ?_) fun _ => .ok ⟨hc.1, Nat.le_succ_of_le n0, g0⟩
      refine .bind (.papp (by omega)) fun q hq => .ok ⟨hc.1, ?_, fun g hg => ?_⟩
      · dsimp only; rw [hq, List.length_append]; simp only [List.length_cons, List.length_nil]; omega
      · dsimp only at hg
        rw [hq] at hg
        rcases List.mem_append.mp hg with z | z
        · exact g0 g z
        · have : g = ([low, 1], c.2) := by simpa using z
          subst this
          refine ⟨by show 2 ≤ 2; omega, by show 2 ≤ 5; omega, fun x hx => ?_⟩
          simp only [List.mem_cons, List.not_mem_nil, or_false] at hx
          rcases hx with rfl | rfl <;> omega
  · obtain ⟨⟨c0, r0, l0⟩, n0, g0⟩ := hs
    rw [bind_ret, bind_ok]
    refine .ite (fun h1 => ?_) fun _ => .ok ⟨by omega, g0⟩
    have h1 := of_decide_eq_true h1
    rw [bind_ret]
    refine .bind (rootless_tot h r0 (by omega) l0) fun l hl => ?_
    refine (Tot.pcat (by have := hl.1; omega)).mono fun q hq => ?_
    rw [hq]
    refine ⟨by rw [List.length_append]; have := hl.1; omega, fun g hg => ?_⟩
    rcases List.mem_append.mp hg with z | z
    · exact g0 g z
    · exact hl.2 g z
/-- a ring that was made -/
structure RgOk (r : Rg) : Prop where
  gd : Gd r.1
  deg : r.2.1 = (r.1.length : Int) - 1
  me : m_measure r.1 = ok r.2.2
  sm : r.2.2.natAbs ≤ 39999
end T
set_option maxRecDepth 100000
set_option maxHeartbeats 1000000
namespace T
open PySem PySem.Spec PyProof.Rows L2
theorem pr_nat {n : Nat} (h : n ≤ 1000000) : prangeI (n : Int) = ok (rangeL 0 n) := prangeI_nat (by
  have e : (2 : Nat) ^ 62 = 4611686018427387904 := by decide
  omega)
noncomputable def m_root_times (poly1 : (List Int)) (row2 : (List Int)) : M (List Int) :=
  (M.bind (pget row2 ((List.length row2 : Int) - 1)) fun last3 => (M.bind (pcat [0] (cutL row2 none (some ((List.length row2 : Int) - 1)))) fun ahead4 => (mapC (fun x5 => (M.bind (pmul last3 x5.2) fun u6 => ok (x5.1 - u6))) (List.zip ahead4 poly1))))
noncomputable def m_poly_table (poly1 : (List Int)) (x2 : (List Int)) : M (List (List Int)) :=
  (M.bind (ok ([] : List (List Int))) fun rows3 => (M.bind (ok x2) fun row4 => (M.bind (M.bind (prangeI (List.length x2 : Int)) fun xs => loopM (fun (s5 : (List (List Int)) × (List Int)) k6 => (M.bind (papp s5.1 s5.2) fun rows7 => (M.bind (m_root_times poly1 s5.2) fun row8 => ok (rows7, row8)))) (rows3, row4) xs) fun s9 => (ok s9.1))))
/-! ### congruence by a polynomial -/
theorem mulP_nil_l (f : List Int) (t : Nat) : co (mulP [] f) t = 0 := rfl
section
variable {f p q r s : List Int}
theorem mulP_cons0 (u f : List Int) : ∀ t, co (mulP (0 :: u) f) t = co (0 :: mulP u f) t
  | 0 => by rw [mulP_cons_zero, Int.zero_mul]; rfl
  | t + 1 => by rw [mulP_cons_succ, Int.zero_mul, Int.zero_add, co_succ]
theorem mulP_one_l (c : Int) (f : List Int) : ∀ t, co (mulP [c] f) t = c * co f t
  | 0 => mulP_cons_zero c [] f
  | t + 1 => by rw [mulP_cons_succ, mulP_nil_l]; omega
end
/-! ### the root's powers times a number -/
/-! ### sums of rows, each taken so often -/
def lin : List Int → List (List Int) → List Int
  | [], _ => []
  | _ :: _, [] => []
  | a :: as, r :: rs => addP (scaleP a r) (lin as rs)
/-! ### the law's own product -/
end T
set_option maxRecDepth 100000
set_option maxHeartbeats 1000000
namespace T
open PySem PySem.Spec PyProof.Rows L2
/-! ### drawn numbers of a ring -/
/-! ### rows of whole numbers -/
end T
set_option maxRecDepth 100000
set_option maxHeartbeats 4000000
namespace T
open PySem PySem.Spec PyProof.Rows L2
/-! ### tables of numbers, place by place -/
theorem srx {x : Int} (h : x.natAbs ≤ 499) : ∀ y, pmul y x = ok (y * x) := fun y => pmul_right (by rw [pow64]; omega)
theorem rt2 {a b x y : Int} (ha : a.natAbs ≤ 499) (hb : b.natAbs ≤ 499) : m_root_times [a, b, 1] [x, y] = ok [0 - y * a, x - y * b] := by
  unfold m_root_times
  rw [show (([x, y] : List Int).length : Int) - 1 = 1 from rfl, pg1, bind_ok, show pcat [0] (cutL [x, y] none (some 1)) = ok [0, x] from by kernel_rfl, bind_ok]
  refine mapC_ok (xs := List.zip [0, x] [a, b, 1]) (g := fun p => p.1 - y * p.2) (fun p hp => ?_) (by rw [sizeLineE]; simp)
  simp only [List.zip_cons_cons, List.zip_nil_left, List.mem_cons, List.not_mem_nil, or_false] at hp
  rcases hp with rfl | rfl
  · rw [srx ha, bind_ok]
  · rw [srx hb, bind_ok]
theorem papp_small {α : Type} {xs : List α} {x : α} (h : xs.length < 100) : papp xs x = ok (xs ++ [x]) := papp_ok (by omega)
theorem pt2 {a b x y : Int} (ha : a.natAbs ≤ 499) (hb : b.natAbs ≤ 499) : m_poly_table [a, b, 1] [x, y] = ok [[x, y], [0 - y * a, x - y * b]] := by
  unfold m_poly_table
  rw [bind_ok, bind_ok, show (([x, y] : List Int).length : Int) = ((2 : Nat) : Int) from rfl, pr_nat (by decide), show rangeL 0 2 = [0, 1] from rfl]
  simp only [bind_okS, loopM_cons, loopM_nil, rt2 ha hb, papp_small, List.length_nil, List.length_cons, List.nil_append, List.cons_append, Nat.reduceAdd, Nat.reduceLT]
/-- the norm, as det tells it, of degree 2 -/
def nd2 (a b c d : Int) : Int := (0 + a * (d)) + -(c * (b))
end T
set_option maxRecDepth 100000
set_option maxHeartbeats 4000000
namespace T
open PySem PySem.Spec PyProof.Rows L2
/-! ### determinants of any size, by the first column -/
def minorZ (t : List (List Int)) (i : Nat) : List (List Int) := (t.take i ++ t.drop (i + 1)).map (List.drop 1)
def dz : Nat → List (List Int) → Int
  | 0, _ => 0
  | n + 1, t => if t.length = 1 then co (t.headD []) 0 else (List.range t.length).foldl (fun tot i => tot + (if i % 2 = 1 then -(co (t.getD i []) 0 * dz n (minorZ t i)) else co (t.getD i []) 0 * dz n (minorZ t i))) 0
/-! ### the law's own determinant -/
/-! ### determinants of two, three and four rows, place by place -/
def D2 (r s : Nat → Int) : Int := r 0 * s 1 - s 0 * r 1
def D3 (r s u : Nat → Int) : Int := r 0 * (s 1 * u 2 - u 1 * s 2) - s 0 * (r 1 * u 2 - u 1 * r 2) + u 0 * (r 1 * s 2 - s 1 * r 2)
def D4 (r s u v : Nat → Int) : Int := r 0 * (s 1 * (u 2 * v 3 - v 2 * u 3) - u 1 * (s 2 * v 3 - v 2 * s 3) + v 1 * (s 2 * u 3 - u 2 * s 3)) - s 0 * (r 1 * (u 2 * v 3 - v 2 * u 3) - u 1 * (r 2 * v 3 - v 2 * r 3) + v 1 * (r 2 * u 3 - u 2 * r 3)) + u 0 * (r 1 * (s 2 * v 3 - v 2 * s 3) - s 1 * (r 2 * v 3 - v 2 * r 3) + v 1 * (r 2 * s 3 - s 2 * r 3)) - v 0 * (r 1 * (s 2 * u 3 - u 2 * s 3) - s 1 * (r 2 * u 3 - u 2 * r 3) + u 1 * (r 2 * s 3 - s 2 * r 3))
theorem co_dropN : ∀ (k : Nat) (r : List Int) (t : Nat), co (List.drop k r) t = co r (t + k)
  | 0, r, t => rfl
  | k + 1, [], t => by rw [List.drop_nil]; rfl
  | k + 1, x :: r, t => by rw [List.drop_succ_cons, co_dropN k r t]; rfl
theorem dz4 (r s u v : List Int) : dz 4 [r, s, u, v] = D4 (co r) (co s) (co u) (co v) := by
  simp [dz, minorZ, List.range_succ, co_dropN, D4, -List.drop_one]
  grind
end T
set_option maxRecDepth 100000
set_option maxHeartbeats 4000000
namespace T
open PySem PySem.Spec PyProof.Rows L2
/-! ### the determinant of a product -/
theorem len4 {α : Type} {xs : List α} (h : xs.length = 4) : ∃ a b c d, xs = [a, b, c, d] := by
  match xs, h with | [a, b, c, d], _ => exact ⟨a, b, c, d, rfl⟩
end T
set_option maxRecDepth 100000
set_option maxHeartbeats 4000000
namespace T
open PySem PySem.Spec PyProof.Rows L2
/-! ### the table of a number -/
/-! ### the law's own table -/
end T
set_option maxRecDepth 100000
set_option maxHeartbeats 4000000
namespace T
open PySem PySem.Spec PyProof.Rows L2
/-! ### norm and trace -/
end T
set_option maxRecDepth 100000
set_option maxHeartbeats 4000000
namespace T
open PySem PySem.Spec PyProof.Rows L2
/-! ### powers of a number as rows, by its table -/
def rowMul (n : Nat) (v : List Int) (A : List (List Int)) : List Int := (List.range n).map fun t => co (lin v A) t
theorem co_mapRange (g : Nat → Int) (n t : Nat) : co ((List.range n).map g) t = if t < n then g t else 0 := by
  by_cases h : t < n
  · rw [if_pos h]
    exact co_some (by rw [List.getElem?_map, List.getElem?_range h]; rfl)
  · rw [if_neg h, co_out (by rw [List.length_map, List.length_range]; omega)]
def xp (n : Nat) (x : List Int) (A : List (List Int)) : Nat → List Int
  | 0 => x
  | k + 1 => rowMul n (xp n x A k) A
def tp (n : Nat) (A : List (List Int)) : Nat → List (List Int)
  | 0 => A
  | k + 1 => (tp n A k).map fun r => rowMul n r A
/-! ### the own polynomial, by the traces -/
def ownL (n : Nat) (c : Nat → Int) : List Int := ((List.range (n + 1)).map c).reverse
end T
set_option maxRecDepth 100000
set_option maxHeartbeats 8000000
namespace T
open PySem PySem.Spec PyProof.Rows L2
/-! ### the own polynomial of a table, place by place -/
def P2 (r s : Nat → Int) (i j : Nat) : Int := r i * s j - r j * s i
def P3 (r s u : Nat → Int) (i j k : Nat) : Int := r i * P2 s u j k - r j * P2 s u i k + r k * P2 s u i j
def cpc2 (r s : Nat → Int) : Nat → Int
  | 0 => 1
  | 1 => -(r 0 + s 1)
  | _ => D2 r s
def cpc3 (r s u : Nat → Int) : Nat → Int
  | 0 => 1
  | 1 => -(r 0 + s 1 + u 2)
  | 2 => P2 r s 0 1 + P2 r u 0 2 + P2 s u 1 2
  | _ => -D3 r s u
def cpc4 (r s u v : Nat → Int) : Nat → Int
  | 0 => 1
  | 1 => -(r 0 + s 1 + u 2 + v 3)
  | 2 => P2 r s 0 1 + P2 r u 0 2 + P2 r v 0 3 + P2 s u 1 2 + P2 s v 1 3 + P2 u v 2 3
  | 3 => -(P3 r s u 0 1 2 + P3 r s v 0 1 3 + P3 r u v 0 2 3 + P3 s u v 1 2 3)
  | _ => D4 r s u v
def cpA (n : Nat) (A : List (List Int)) : Nat → Int :=
  match n with
  | 2 => cpc2 (co (A.getD 0 [])) (co (A.getD 1 []))
  | 3 => cpc3 (co (A.getD 0 [])) (co (A.getD 1 [])) (co (A.getD 2 []))
  | _ => cpc4 (co (A.getD 0 [])) (co (A.getD 1 [])) (co (A.getD 2 [])) (co (A.getD 3 []))
/-- z times the first number less the number: its table -/
def subTab (n : Nat) (z : Int) (A : List (List Int)) : List (List Int) := (List.range n).map fun i => (List.range n).map fun j => (if i = j then z else 0) - co (A.getD i []) j
theorem value4 (z a b c d e f g h i j k' l m n o p : Int) : ev (ownL 4 (cpA 4 [[a, b, c, d], [e, f, g, h], [i, j, k', l], [m, n, o, p]])) z = dz 4 (subTab 4 z [[a, b, c, d], [e, f, g, h], [i, j, k', l], [m, n, o, p]]) := by
  simp [subTab, List.range_succ, dz4, ownL, cpA, cpc4, P2, P3, D4, co, ev]
  grind
def add0 (r : List Int) (p : Int) : List Int := (co r 0 + p) :: r.drop 1
def firstE (n : Nat) : List Int := 1 :: List.replicate (n - 1) 0
def hv (n : Nat) (A : List (List Int)) (c : Nat → Int) : Nat → List Int
  | 0 => firstE n
  | j + 1 => add0 (rowMul n (hv n A c j) A) (c (j + 1))
end T
set_option maxRecDepth 100000
set_option maxHeartbeats 2000000
namespace T
open PySem PySem.Spec PyProof.Rows L2
/-! ### the own polynomial of any table of two to four rows -/
/-! ### the table of z less the number -/
/-! ### a row with a number added to its first place, and Horner's way with numbers -/
end T
set_option maxRecDepth 100000
set_option maxHeartbeats 2000000
namespace T
open PySem PySem.Spec PyProof.Rows L2
/-! ### own polynomial, mate, and a number put into a polynomial -/
end T
set_option maxRecDepth 100000
set_option maxHeartbeats 2000000
namespace T
open PySem PySem.Spec PyProof.Rows L2
/-! ### stair tables: the rest of a row -/
def quo (A : List (List Int)) (L : List Int) (i : Nat) : Int := co L i / co (A.getD i []) i
def sub1 (k : Nat) (A : List (List Int)) (L : List Int) (i : Nat) : List Int := (List.range k).map fun j => co L j - quo A L i * co (A.getD i []) j
def lst (k : Nat) (A : List (List Int)) (row : List Int) : Nat → List Int
  | 0 => row
  | s + 1 => sub1 k A (lst k A row s) (k - 1 - s)
end T
set_option maxRecDepth 100000
set_option maxHeartbeats 4000000
namespace T
open PySem PySem.Spec PyProof.Rows L2
/-! ### the own polynomial of greater numbers -/
/-! ### the law's own polynomial, by the traces -/
end T
set_option maxRecDepth 100000
set_option maxHeartbeats 2000000
namespace T
open PySem PySem.Spec PyProof.Rows L2
/-! ### what `apart` finds -/
end T
set_option maxRecDepth 100000
set_option maxHeartbeats 2000000
namespace T
open PySem PySem.Spec PyProof.Rows L2
/-! ### the two factors -/
end T
set_option maxRecDepth 100000
set_option maxHeartbeats 4000000
namespace T
open PySem PySem.Spec PyProof.Rows L2
/-! ### rings for grind -/
structure RD (α : Type) where
  z : α
  o : α
  ad : α → α → α
  ng : α → α
  ml : α → α → α
  ad_z : ∀ a, ad a z = a
  ad_c : ∀ a b, ad a b = ad b a
  ad_a : ∀ a b c, ad (ad a b) c = ad a (ad b c)
  ng_ad : ∀ a, ad (ng a) a = z
  ml_a : ∀ a b c, ml (ml a b) c = ml a (ml b c)
  ml_c : ∀ a b, ml a b = ml b a
  ml_o : ∀ a, ml a o = a
  ds : ∀ a b c, ml a (ad b c) = ad (ml a b) (ml a c)
section
variable {α : Type}
def RD.nat (d : RD α) : Nat → α
  | 0 => d.z
  | 1 => d.o
  | n + 2 => d.ad (RD.nat d (n + 1)) d.o
def RD.int (d : RD α) : Int → α
  | .ofNat n => d.nat n
  | .negSucc n => d.ng (d.nat (n + 1))
def RD.pw (d : RD α) (a : α) : Nat → α
  | 0 => d.o
  | n + 1 => d.ml (RD.pw d a n) a
theorem RD.z_ad (d : RD α) (a : α) : d.ad d.z a = a := by rw [d.ad_c, d.ad_z]
theorem RD.cancel (d : RD α) {a b c : α} (h : d.ad a b = d.ad a c) : b = c := by
  have e : d.ad (d.ng a) (d.ad a b) = d.ad (d.ng a) (d.ad a c) := by rw [h]
  rwa [← d.ad_a, ← d.ad_a, d.ng_ad, d.z_ad, d.z_ad] at e
theorem RD.ml_z (d : RD α) (a : α) : d.ml a d.z = d.z := d.cancel (a := d.ml a d.z) (by rw [← d.ds, d.ad_z, d.ad_z])
theorem RD.nat_succ (d : RD α) : ∀ n, d.nat (n + 1) = d.ad (d.nat n) d.o
  | 0 => by show d.o = d.ad d.z d.o; rw [d.z_ad]
  | _ + 1 => rfl
theorem RD.ng_ng (d : RD α) (a : α) : d.ng (d.ng a) = a := d.cancel (a := d.ng a) (by rw [d.ng_ad, d.ad_c, d.ng_ad])
theorem RD.ng_z (d : RD α) : d.ng d.z = d.z := by have := d.ng_ad d.z; rwa [d.ad_z] at this
theorem RD.ng_eq (d : RD α) {a b : α} (h : d.ad a b = d.z) : b = d.ng a := d.cancel (a := a) (by rw [h, d.ad_c, d.ng_ad])
theorem RD.ng_ml (d : RD α) (a b : α) : d.ml (d.ng a) b = d.ng (d.ml a b) := d.ng_eq (by rw [d.ml_c a, d.ml_c _ b, ← d.ds, d.ad_c, d.ng_ad, d.ml_z])
theorem RD.int_neg (d : RD α) : ∀ i : Int, d.int (-i) = d.ng (d.int i)
  | .ofNat 0 => by show d.z = d.ng d.z; rw [d.ng_z]
  | .ofNat (n + 1) => rfl
  | .negSucc n => by show d.nat (n + 1) = d.ng (d.ng _); rw [d.ng_ng]
@[reducible] def RD.ring (d : RD α) : Lean.Grind.CommRing α where
  add := d.ad
  mul := d.ml
  natCast := ⟨d.nat⟩
  ofNat n := ⟨d.nat n⟩
  nsmul := ⟨fun n a => d.ml (d.nat n) a⟩
  npow := ⟨fun a n => d.pw a n⟩
  add_zero := d.ad_z
  add_comm := d.ad_c
  add_assoc := d.ad_a
  mul_assoc := d.ml_a
  mul_one := d.ml_o
  one_mul a := (d.ml_c _ _).trans (d.ml_o a)
  left_distrib := d.ds
  right_distrib a b c := by show d.ml (d.ad a b) c = d.ad (d.ml a c) (d.ml b c); rw [d.ml_c, d.ds, d.ml_c c, d.ml_c c]
  zero_mul a := (d.ml_c _ _).trans (d.ml_z a)
  mul_zero a := d.ml_z a
  pow_zero _ := rfl
  pow_succ _ _ := rfl
  ofNat_succ n := d.nat_succ n
  ofNat_eq_natCast _ := rfl
  nsmul_eq_natCast_mul _ _ := rfl
  neg := d.ng
  sub a b := d.ad a (d.ng b)
  intCast := ⟨d.int⟩
  zsmul := ⟨fun i a => d.ml (d.int i) a⟩
  neg_add_cancel := d.ng_ad
  sub_eq_add_neg _ _ := rfl
  neg_zsmul i a := by show d.ml (d.int (-i)) a = d.ng (d.ml (d.int i) a); rw [d.int_neg, d.ng_ml]
  zsmul_natCast_eq_nsmul _ _ := rfl
  intCast_ofNat _ := rfl
  intCast_neg i := d.int_neg i
  mul_comm := d.ml_c
end
/-! ### Z[x] -/
def coEq : Setoid (List Int) := ⟨fun a b => ∀ t, co a t = co b t, fun _ _ => rfl, fun h t => (h t).symm, fun h g t => (h t).trans (g t)⟩
def PZ : Type := Quotient coEq
def PZ.of (l : List Int) : PZ := Quotient.mk coEq l
theorem PZ.ind {P : PZ → Prop} (h : ∀ l, P (PZ.of l)) (a : PZ) : P a := Quotient.ind h a
theorem PZ.rep (a : PZ) : ∃ l, a = PZ.of l := Quotient.ind (motive := fun a => ∃ l, a = PZ.of l) (fun l => ⟨l, rfl⟩) a
theorem PZ.eq {a b : List Int} (h : ∀ t, co a t = co b t) : PZ.of a = PZ.of b := Quotient.sound (s := coEq) h
def PZ.co (a : PZ) (t : Nat) : Int := Quotient.lift (s := coEq) (fun l => T.co l t) (fun _ _ h => h t) a
theorem PZ.co_of (l : List Int) (t : Nat) : (PZ.of l).co t = T.co l t := rfl
theorem PZ.ext {a b : PZ} (h : ∀ t, a.co t = b.co t) : a = b := by
  obtain ⟨l, rfl⟩ := PZ.rep a
  obtain ⟨m, rfl⟩ := PZ.rep b
  exact PZ.eq h
def PZ.addD : PZ → PZ → PZ := Quotient.lift₂ (fun a b => PZ.of (addP a b)) fun a b c d h1 h2 => PZ.eq fun t => by rw [addP_co, addP_co, h1 t, h2 t]
def PZ.mulD : PZ → PZ → PZ := Quotient.lift₂ (fun a b => PZ.of (mulP a b)) fun a b c d h1 h2 => PZ.eq fun t => (mulP_congr_l b h1 t).trans (mulP_congr_r h2 c t)
def PZ.negD : PZ → PZ := Quotient.lift (fun a => PZ.of (scaleP (-1) a)) fun a b h => PZ.eq fun t => by rw [scaleP_co, scaleP_co, h t]
def PZ.rd : RD PZ where
  z := PZ.of []
  o := PZ.of [1]
  ad := PZ.addD
  ng := PZ.negD
  ml := PZ.mulD
  ad_z := PZ.ind fun a => PZ.eq fun t => by rw [addP_co, co_nil, Int.add_zero]
  ad_c := PZ.ind fun a => PZ.ind fun b => PZ.eq fun t => by rw [addP_co, addP_co, Int.add_comm]
  ad_a := PZ.ind fun a => PZ.ind fun b => PZ.ind fun c => PZ.eq fun t => by rw [addP_co, addP_co, addP_co, addP_co, Int.add_assoc]
  ng_ad := PZ.ind fun a => PZ.eq fun t => by rw [addP_co, scaleP_co, co_nil]; omega
  ml_a := PZ.ind fun a => PZ.ind fun b => PZ.ind fun c => PZ.eq fun t => mulP_assoc b c a t
  ml_c := PZ.ind fun a => PZ.ind fun b => PZ.eq fun t => mulP_comm a b t
  ml_o := PZ.ind fun a => PZ.eq fun t => by rw [mulP_comm, mulP_one_l, Int.one_mul]
  ds := PZ.ind fun a => PZ.ind fun b => PZ.ind fun c => PZ.eq fun t => by rw [mulP_add_r, addP_co]
instance : Lean.Grind.CommRing PZ := PZ.rd.ring
instance : IntCast PZ := Lean.Grind.Ring.intCast
instance : NatCast PZ := Lean.Grind.Semiring.natCast
theorem PZ.of_add (a b : List Int) : PZ.of (addP a b) = PZ.of a + PZ.of b := rfl
theorem PZ.of_mul (a b : List Int) : PZ.of (mulP a b) = PZ.of a * PZ.of b := rfl
theorem PZ.of_one : PZ.of [1] = 1 := rfl
theorem PZ.co_add (a b : PZ) (t : Nat) : (a + b).co t = a.co t + b.co t := by
  obtain ⟨a, rfl⟩ := PZ.rep a
  obtain ⟨b, rfl⟩ := PZ.rep b
  exact addP_co a b t
theorem PZ.co_neg (a : PZ) (t : Nat) : (-a).co t = -a.co t := by
  obtain ⟨a, rfl⟩ := PZ.rep a
  show T.co (scaleP (-1) a) t = - T.co a t
  rw [scaleP_co]; omega
theorem PZ.co_sub (a b : PZ) (t : Nat) : (a - b).co t = a.co t - b.co t := by
  rw [Lean.Grind.Ring.sub_eq_add_neg, PZ.co_add, PZ.co_neg]; omega
theorem PZ.co_zero (t : Nat) : (0 : PZ).co t = 0 := rfl
theorem PZ.natC : ∀ n : Nat, PZ.rd.nat n = PZ.of [(n : Int)]
  | 0 => PZ.eq fun t => by cases t <;> rfl
  | n + 1 => by
    rw [RD.nat_succ, PZ.natC n]
    exact PZ.eq fun t => by
      rw [addP_co]
      cases t with
      | zero => show (n : Int) + 1 = ((n + 1 : Nat) : Int); omega
      | succ t => rfl
theorem PZ.intC : ∀ i : Int, (i : PZ) = PZ.of [i]
  | .ofNat n => PZ.natC n
  | .negSucc n => by
    show PZ.rd.ng (PZ.rd.nat (n + 1)) = _
    rw [PZ.natC]
    exact PZ.eq fun t => by
      rw [scaleP_co]
      cases t with
      | zero => show -1 * ((n + 1 : Nat) : Int) = Int.negSucc n; omega
      | succ t => rfl
theorem PZ.co_int_mul (c : Int) (a : PZ) (t : Nat) : ((c : PZ) * a).co t = c * a.co t := by
  rw [PZ.intC]
  obtain ⟨a, rfl⟩ := PZ.rep a
  exact mulP_one_l c a t
theorem PZ.co_int (c : Int) (t : Nat) : (c : PZ).co t = if t = 0 then c else 0 := by
  rw [PZ.intC]
  cases t <;> rfl
/-- x -/
def PZ.X : PZ := PZ.of [0, 1]
theorem PZ.of_cons (a : Int) (l : List Int) : PZ.of (a :: l) = (a : PZ) + PZ.X * PZ.of l := by
  rw [PZ.intC]
  refine PZ.eq fun t => ?_
  rw [addP_co]
  have h : ∀ t, T.co (mulP [0, 1] l) t = T.co (0 :: l) t := fun t => by
    rw [show ([0, 1] : List Int) = 0 :: [1] from rfl, mulP_cons0, co_cons0, co_cons0]
    cases t with
    | zero => rfl
    | succ t => show T.co (mulP [1] l) t = T.co l t; rw [mulP_one_l, Int.one_mul]
  rw [h]
  cases t with
  | zero => show a = a + 0; omega
  | succ t => show T.co (a :: l) (t + 1) = 0 + T.co (0 :: l) (t + 1); rw [co_succ, co_succ]; omega
theorem PZ.coX_zero (a : PZ) : (PZ.X * a).co 0 = 0 := by
  obtain ⟨a, rfl⟩ := PZ.rep a
  rw [show PZ.X * PZ.of a = PZ.of (0 :: a) by rw [PZ.of_cons]; grind]
  rfl
theorem PZ.coX_succ (a : PZ) (t : Nat) : (PZ.X * a).co (t + 1) = a.co t := by
  obtain ⟨a, rfl⟩ := PZ.rep a
  rw [show PZ.X * PZ.of a = PZ.of (0 :: a) by rw [PZ.of_cons]; grind]
  exact co_succ 0 a t
/-! ### degrees -/
/-- all places from n on are nought -/
def PZ.Bd (a : PZ) (n : Nat) : Prop := ∀ t, n ≤ t → a.co t = 0
theorem PZ.Bd.mono {a : PZ} {n m : Nat} (h : a.Bd n) (l : n ≤ m) : a.Bd m := fun t ht => h t (by omega)
theorem PZ.bd (a : PZ) : ∃ n, a.Bd n := by
  obtain ⟨l, rfl⟩ := PZ.rep a
  exact ⟨l.length, fun t ht => co_out ht⟩
theorem PZ.of_bd (l : List Int) : (PZ.of l).Bd l.length := fun t ht => co_out ht
/-- as a row of n places -/
def PZ.row (a : PZ) (n : Nat) : List Int := (List.range n).map a.co
theorem PZ.row_len (a : PZ) (n : Nat) : (a.row n).length = n := by unfold PZ.row; simp
theorem PZ.row_co (a : PZ) (n t : Nat) : T.co (a.row n) t = if t < n then a.co t else 0 := by
  unfold PZ.row
  rw [co_mapRange]
theorem PZ.of_row {a : PZ} {n : Nat} (h : a.Bd n) : PZ.of (a.row n) = a := PZ.ext fun t => by
  show T.co (a.row n) t = a.co t
  rw [PZ.row_co]
  by_cases ht : t < n
  · rw [if_pos ht]
  · rw [if_neg ht, h t (by omega)]
theorem PZ.Bd.add {a b : PZ} {n : Nat} (h : a.Bd n) (g : b.Bd n) : (a + b).Bd n := fun t ht => by rw [PZ.co_add, h t ht, g t ht]; rfl
theorem PZ.Bd.sub {a b : PZ} {n : Nat} (h : a.Bd n) (g : b.Bd n) : (a - b).Bd n := fun t ht => by rw [PZ.co_sub, h t ht, g t ht]; rfl
theorem PZ.Bd.int {a : PZ} {n : Nat} (c : Int) (h : a.Bd n) : ((c : PZ) * a).Bd n := fun t ht => by rw [PZ.co_int_mul, h t ht, Int.mul_zero]
theorem PZ.bd_zero (n : Nat) : (0 : PZ).Bd n := fun _ _ => rfl
/-- the top place of a product -/
theorem PZ.mul_top {a b : PZ} {n m : Nat} (ha : a.Bd (n + 1)) (hb : b.Bd (m + 1)) : (a * b).Bd (n + m + 1) ∧ (a * b).co (n + m) = a.co n * b.co m := by
  rw [← PZ.of_row ha, ← PZ.of_row hb]
  have la := PZ.row_len a (n + 1)
  have lb := PZ.row_len b (m + 1)
  refine ⟨fun t ht => ?_, ?_⟩
  · show T.co (mulP _ _) t = 0
    exact mulP_out _ _ t (by omega) (.inr (by omega))
  · have := mulP_top (b.row (m + 1)) (by omega) (a.row (n + 1)) (by omega)
    rw [la, lb] at this
    rw [show n + 1 + (m + 1) - 2 = n + m by omega, Nat.add_sub_cancel, Nat.add_sub_cancel] at this
    exact this
theorem PZ.Bd.mul {a b : PZ} {n m : Nat} (ha : a.Bd (n + 1)) (hb : b.Bd (m + 1)) : (a * b).Bd (n + m + 1) := (PZ.mul_top ha hb).1
/-- the degree of what is not nought -/
theorem PZ.deg {a : PZ} (h : a ≠ 0) : ∃ n, a.Bd (n + 1) ∧ a.co n ≠ 0 := by
  obtain ⟨N, hN⟩ := a.bd
  induction N with
  | zero => exact absurd (PZ.ext fun t => hN t (Nat.zero_le _)) h
  | succ N ih =>
    by_cases hz : a.co N = 0
    · refine ih fun t ht => ?_
      by_cases e : t = N
      · rw [e]; exact hz
      · exact hN t (by omega)
    · exact ⟨N, hN, hz⟩
/-- monic, of degree n -/
structure PZ.Mon (f : PZ) (n : Nat) : Prop where
  bd : f.Bd (n + 1)
  top : f.co n = 1
def PZ.xp : Nat → PZ
  | 0 => 1
  | n + 1 => PZ.X * PZ.xp n
theorem PZ.co_one (t : Nat) : (1 : PZ).co t = if t = 0 then 1 else 0 := by cases t <;> rfl
theorem PZ.co_xp : ∀ (k : Nat) (a : PZ) (t : Nat), (PZ.xp k * a).co t = if k ≤ t then a.co (t - k) else 0
  | 0, a, t => by rw [show PZ.xp 0 * a = a by show 1 * a = a; grind]; rfl
  | k + 1, a, t => by
    rw [show PZ.xp (k + 1) * a = PZ.X * (PZ.xp k * a) by show PZ.X * PZ.xp k * a = _; grind]
    cases t with
    | zero => rw [PZ.coX_zero, if_neg (by omega)]
    | succ t =>
      rw [PZ.coX_succ, PZ.co_xp k a t]
      by_cases h : k ≤ t
      · rw [if_pos h, if_pos (by omega), Nat.succ_sub_succ]
      · rw [if_neg h, if_neg (by omega)]
/-- pseudo-division by what has degree m -/
theorem PZ.pdiv {d : PZ} {m : Nat} (hd : d.Bd (m + 1)) : ∀ (N : Nat) (a : PZ), a.Bd N → ∃ (k : Nat) (q s : PZ), ((d.co m ^ k : Int) : PZ) * a = q * d + s ∧ s.Bd m
  | 0, a, h => ⟨0, 0, 0, by rw [show a = 0 from PZ.ext fun t => h t (Nat.zero_le _)]; grind, PZ.bd_zero _⟩
  | N + 1, a, h => by
    by_cases hN : N < m
    · exact ⟨0, 0, a, by rw [Int.pow_zero]; grind, h.mono (by omega)⟩
    · have e : (((d.co m : Int) : PZ) * a - ((a.co N : Int) : PZ) * (PZ.xp (N - m) * d)).Bd N := fun t ht => by
        rw [PZ.co_sub, PZ.co_int_mul, PZ.co_int_mul, PZ.co_xp, if_pos (by omega)]
        by_cases et : t = N
        · rw [et, show N - (N - m) = m by omega, Int.mul_comm]; omega
        · rw [h t (by omega), hd (t - (N - m)) (by omega), Int.mul_zero, Int.mul_zero]; rfl
      obtain ⟨k, q, s, h1, h2⟩ := PZ.pdiv hd N _ e
      refine ⟨k + 1, q + ((d.co m ^ k : Int) : PZ) * ((a.co N : Int) : PZ) * PZ.xp (N - m), s, ?_, h2⟩
      rw [Int.pow_succ]
      have : ((d.co m ^ k * d.co m : Int) : PZ) = ((d.co m ^ k : Int) : PZ) * ((d.co m : Int) : PZ) := by grind
      rw [this]
      grind
theorem PZ.mdiv {d : PZ} {m : Nat} (hd : d.Mon m) (a : PZ) : ∃ q s : PZ, a = q * d + s ∧ s.Bd m := by
  obtain ⟨N, hN⟩ := a.bd
  obtain ⟨k, q, s, h1, h2⟩ := PZ.pdiv hd.bd N a hN
  rw [hd.top, Int.one_pow] at h1
  exact ⟨q, s, by grind, h2⟩
theorem PZ.mdiv_uniq {d : PZ} {m : Nat} (hd : d.Mon m) {q s q' s' : PZ} (h : q * d + s = q' * d + s') (h1 : s.Bd m) (h2 : s'.Bd m) : q = q' ∧ s = s' := by
  have hq : q = q' := by
    by_cases e : q - q' = 0
    · grind
    · obtain ⟨n, h3, h4⟩ := PZ.deg e
      have ht := (PZ.mul_top h3 hd.bd).2
      rw [hd.top] at ht
      have e2 : (q - q') * d = s' - s := by grind
      rw [e2, PZ.co_sub, h1 _ (by omega), h2 _ (by omega)] at ht
      omega
  subst hq
  exact ⟨rfl, by grind⟩
end T
set_option maxRecDepth 100000
set_option maxHeartbeats 4000000
namespace T
open PySem PySem.Spec PyProof.Rows L2
/-! ### primes of Z, and what they divide in Z[x] -/
def PrI (p : Int) : Prop := 1 < p ∧ ∀ a b : Int, p ∣ a * b → p ∣ a ∨ p ∣ b
theorem prI_of_nat {p : Nat} (h1 : 1 < p) (h : ∀ d, d ∣ p → d = 1 ∨ d = p) : PrI (p : Int) := ⟨by omega, fun a b hab => by
  have hn : p ∣ a.natAbs * b.natAbs := by
    have := Int.natAbs_dvd_natAbs.mpr hab
    rwa [Int.natAbs_natCast, Int.natAbs_mul] at this
  rcases h (Nat.gcd p a.natAbs) (Nat.gcd_dvd_left _ _) with e | e
  · right
    have := Nat.Coprime.dvd_of_dvd_mul_left (k := p) (show Nat.Coprime p a.natAbs from e) hn
    exact Int.natAbs_dvd_natAbs.mp (by rwa [Int.natAbs_natCast])
  · left
    have : p ∣ a.natAbs := by
      have h2 := Nat.gcd_dvd_right p a.natAbs
      rwa [e] at h2
    exact Int.natAbs_dvd_natAbs.mp (by rwa [Int.natAbs_natCast])⟩
theorem prime_div_nat : ∀ (N c : Nat), c ≤ N → 1 < c → ∃ p : Nat, 1 < p ∧ (∀ d, d ∣ p → d = 1 ∨ d = p) ∧ p ∣ c
  | 0, c, h, h1 => by omega
  | N + 1, c, h, h1 => by
    by_cases hp : ∀ d, d ∣ c → d = 1 ∨ d = c
    · exact ⟨c, h1, hp, Nat.dvd_refl c⟩
    · obtain ⟨d, hd⟩ := Classical.not_forall.mp hp
      obtain ⟨h2, h3⟩ := Classical.not_imp.mp hd
      have h4 : d ≠ 1 ∧ d ≠ c := ⟨fun z => h3 (.inl z), fun z => h3 (.inr z)⟩
      have h5 := Nat.le_of_dvd (by omega) h2
      have h6 : d ≠ 0 := fun z => by subst z; have := Nat.eq_zero_of_zero_dvd h2; omega
      obtain ⟨p, p1, p2, p3⟩ := prime_div_nat N d (by omega) (by omega)
      exact ⟨p, p1, p2, Nat.dvd_trans p3 h2⟩
theorem prime_div {c : Int} (h0 : c ≠ 0) (h : c.natAbs ≠ 1) : ∃ p, PrI p ∧ p ∣ c := by
  obtain ⟨p, p1, p2, p3⟩ := prime_div_nat c.natAbs c.natAbs (Nat.le_refl _) (by omega)
  exact ⟨p, prI_of_nat p1 p2, Int.natAbs_dvd_natAbs.mp (by rwa [Int.natAbs_natCast])⟩
/-- p divides all places -/
def PZ.Dvp (p : Int) (a : PZ) : Prop := ∀ t, p ∣ a.co t
theorem PZ.dvp_iff {p : Int} {a : PZ} : a.Dvp p ↔ ∃ b : PZ, a = (p : PZ) * b := by
  constructor
  · intro h
    obtain ⟨n, hn⟩ := a.bd
    refine ⟨PZ.of ((a.row n).map (· / p)), PZ.ext fun t => ?_⟩
    rw [PZ.co_int_mul]
    show a.co t = p * T.co ((a.row n).map (· / p)) t
    rw [co_map _ _ (Int.zero_ediv p), PZ.row_co]
    by_cases ht : t < n
    · rw [if_pos ht, Int.mul_ediv_cancel' (h t)]
    · rw [if_neg ht, hn t (by omega), Int.zero_ediv, Int.mul_zero]
  · rintro ⟨b, rfl⟩ t
    rw [PZ.co_int_mul]
    exact Int.dvd_mul_right p _
theorem PZ.not_dvp {p : Int} {a : PZ} (h : ¬ a.Dvp p) : ∃ (n : Nat) (a1 a2 : PZ), a = a1 + (p : PZ) * a2 ∧ a1.Bd (n + 1) ∧ ¬ p ∣ a1.co n := by
  obtain ⟨N, hN⟩ := a.bd
  have key : ∀ N, (∀ t, N ≤ t → p ∣ a.co t) → ∃ n, ¬ p ∣ a.co n ∧ ∀ t, n < t → p ∣ a.co t := by
    intro N
    induction N with
    | zero => exact fun g => absurd (fun t => g t (Nat.zero_le _)) h
    | succ N ih =>
      intro g
      by_cases hz : p ∣ a.co N
      · exact ih fun t ht => by
          by_cases e : t = N
          · rw [e]; exact hz
          · exact g t (by omega)
      · exact ⟨N, hz, fun t ht => g t ht⟩
  obtain ⟨n, h1, h2⟩ := key N fun t ht => by rw [hN t ht]; exact Int.dvd_zero p
  have hd : (a - PZ.of (a.row (n + 1))).Dvp p := fun t => by
    rw [PZ.co_sub, PZ.co_of, PZ.row_co]
    by_cases ht : t < n + 1
    · rw [if_pos ht, Int.sub_self]; exact Int.dvd_zero p
    · rw [if_neg ht, Int.sub_zero]; exact h2 t (by omega)
  obtain ⟨a2, e⟩ := PZ.dvp_iff.mp hd
  refine ⟨n, PZ.of (a.row (n + 1)), a2, by grind, fun t ht => ?_, ?_⟩
  · rw [PZ.co_of, PZ.row_co, if_neg (by omega)]
  · rw [PZ.co_of, PZ.row_co, if_pos (by omega)]; exact h1
theorem PZ.dvp_mul {p : Int} (hp : PrI p) {a b : PZ} (h : (a * b).Dvp p) : a.Dvp p ∨ b.Dvp p := by
  by_cases ha : a.Dvp p
  · exact .inl ha
  by_cases hb : b.Dvp p
  · exact .inr hb
  obtain ⟨n, a1, a2, e1, d1, t1⟩ := PZ.not_dvp ha
  obtain ⟨m, b1, b2, e2, d2, t2⟩ := PZ.not_dvp hb
  have ht := (PZ.mul_top d1 d2).2
  have e : a1 * b1 = a * b - (p : PZ) * (a2 * b1 + b2 * a1 + (p : PZ) * (a2 * b2)) := by grind
  rw [e, PZ.co_sub, PZ.co_int_mul] at ht
  have hd : p ∣ a1.co n * b1.co m := by
    rw [← ht]
    exact Int.dvd_sub (h _) (Int.dvd_mul_right p _)
  rcases hp.2 _ _ hd with z | z
  · exact absurd z t1
  · exact absurd z t2
theorem PZ.int_cancel {c : Int} (hc : c ≠ 0) {a b : PZ} (h : (c : PZ) * a = (c : PZ) * b) : a = b := PZ.ext fun t => by
  have := congrArg (fun x => PZ.co x t) h
  simp only [PZ.co_int_mul] at this
  exact Int.eq_of_mul_eq_mul_left hc this
/-- what divides a multiple of a monic one is, up to a number, a monic one that divides it (Gauss) -/
theorem PZ.gauss {f : PZ} {n : Nat} (hf : f.Mon n) : ∀ (N : Nat) (C : Int) (q d : PZ) (m : Nat), C.natAbs ≤ N → C ≠ 0 → d.Bd (m + 1) → d.co m ≠ 0 → (C : PZ) * f = q * d → m ≤ n ∧ ∃ q' d' : PZ, q'.Mon (n - m) ∧ d'.Mon m ∧ f = q' * d'
  | 0, C, q, d, m, hN, hC, _, _, _ => by omega
  | N + 1, C, q, d, m, hN, hC, hd, ht, h => by
    by_cases h1 : C.natAbs = 1
    · have hq0 : q ≠ 0 := fun z => by
        have := congrArg (fun x => PZ.co x n) h
        simp only [PZ.co_int_mul, hf.top] at this
        rw [z, show (0 : PZ) * d = 0 by grind, PZ.co_zero] at this
        omega
      obtain ⟨l, hq1, hq2⟩ := PZ.deg hq0
      obtain ⟨p1, p2⟩ := PZ.mul_top hq1 hd
      have hlm : l + m = n := by
        rw [← h] at p1 p2
        rw [PZ.co_int_mul] at p2
        have hne : q.co l * d.co m ≠ 0 := Int.mul_ne_zero hq2 ht
        have a1 : ¬ n < l + m := fun z => hne (by rw [← p2, hf.bd _ (by omega), Int.mul_zero])
        have a2 : ¬ l + m < n := fun z => by
          have := p1 n (by omega)
          rw [PZ.co_int_mul, hf.top] at this
          omega
        omega
      subst hlm
      rw [← h, PZ.co_int_mul, hf.top, Int.mul_one] at p2
      refine ⟨by omega, ?_⟩
      rw [Nat.add_sub_cancel]
      have hu : q.co l * d.co m = 1 ∨ q.co l * d.co m = -1 := by omega
      have hdu : d.co m = 1 ∨ d.co m = -1 := by
        have hdv : d.co m ∣ 1 := by
          rcases hu with e | e
          · exact ⟨q.co l, by rw [Int.mul_comm]; omega⟩
          · exact ⟨-q.co l, by rw [Int.mul_neg, Int.mul_comm]; omega⟩
        have h3 := Int.natAbs_dvd_natAbs.mpr hdv
        have h4 : (d.co m).natAbs = 1 := Nat.dvd_one.mp h3
        omega
      have e1 : ∀ x : Int, x = 1 ∨ x = -1 → x * x = 1 := fun x hx => by rcases hx with rfl | rfl <;> rfl
      refine ⟨((C * d.co m : Int) : PZ) * q, ((d.co m : Int) : PZ) * d, ⟨hq1.int _, ?_⟩, ⟨hd.int _, ?_⟩, ?_⟩
      · rw [PZ.co_int_mul, p2, Int.mul_assoc, Int.mul_comm (d.co m)]
        exact e1 _ (by omega)
      · rw [PZ.co_int_mul]; exact e1 _ hdu
      · have hCC : C * C = 1 := e1 _ (by omega)
        have hDD := e1 _ hdu
        have c1 : ((C * d.co m : Int) : PZ) = (C : PZ) * ((d.co m : Int) : PZ) := by grind
        have c2 : (C : PZ) * (C : PZ) = 1 := by
          have : ((C * C : Int) : PZ) = 1 := by rw [hCC]; rfl
          grind
        have c3 : ((d.co m : Int) : PZ) * ((d.co m : Int) : PZ) = 1 := by
          have : ((d.co m * d.co m : Int) : PZ) = 1 := by rw [hDD]; rfl
          grind
        rw [c1]
        grind
    · obtain ⟨p, hp, k, rfl⟩ := prime_div hC h1
      have hk0 : k ≠ 0 := fun z => hC (by rw [z, Int.mul_zero])
      have hlt : k.natAbs ≤ N := by
        rw [Int.natAbs_mul] at hN
        have h2 : 2 * k.natAbs ≤ p.natAbs * k.natAbs := Nat.mul_le_mul_right _ (by have := hp.1; omega)
        omega
      have hdv : (q * d).Dvp p := by
        rw [← h]
        exact PZ.dvp_iff.mpr ⟨(k : PZ) * f, by grind⟩
      have hp0 : p ≠ 0 := by have := hp.1; omega
      rcases PZ.dvp_mul hp hdv with z | z
      · obtain ⟨q1, e⟩ := PZ.dvp_iff.mp z
        exact PZ.gauss hf N k q1 d m hlt hk0 hd ht (PZ.int_cancel hp0 (by grind))
      · obtain ⟨d1, e⟩ := PZ.dvp_iff.mp z
        refine PZ.gauss hf N k q d1 m hlt hk0 (fun t ht => ?_) (fun z => ht ?_) (PZ.int_cancel hp0 (by grind))
        · have := hd t ht
          rw [e, PZ.co_int_mul] at this
          rcases Int.mul_eq_zero.mp this with z | z
          · exact absurd z hp0
          · exact z
        · rw [e, PZ.co_int_mul, z, Int.mul_zero]
end T
set_option maxRecDepth 100000
set_option maxHeartbeats 4000000
namespace T
open PySem PySem.Spec PyProof.Rows L2
/-! ### Z[x] by a monic polynomial -/
structure NF where
  f : PZ
  n : Nat
  mon : f.Mon n
  pos : 0 < n
def NF.st (F : NF) : Setoid PZ := ⟨fun a b => ∃ u, a = b + u * F.f, fun a => ⟨0, by grind⟩, fun ⟨u, h⟩ => ⟨-u, by grind⟩, fun ⟨u, h⟩ ⟨v, g⟩ => ⟨u + v, by grind⟩⟩
def NF.R (F : NF) : Type := Quotient F.st
section
variable {F : NF}
def NF.cl (F : NF) (a : PZ) : F.R := Quotient.mk F.st a
theorem NF.rep (x : F.R) : ∃ a, x = F.cl a := Quotient.ind (motive := fun x => ∃ a, x = F.cl a) (fun a => ⟨a, rfl⟩) x
theorem NF.cl_eq {a b : PZ} : F.cl a = F.cl b ↔ ∃ u, a = b + u * F.f := ⟨fun h => Quotient.exact (s := F.st) h, fun h => Quotient.sound (s := F.st) h⟩
def NF.rd (F : NF) : RD F.R where
  z := F.cl 0
  o := F.cl 1
  ad := Quotient.lift₂ (fun a b => F.cl (a + b)) fun a b c d ⟨u, h⟩ ⟨v, g⟩ => NF.cl_eq.mpr ⟨u + v, by grind⟩
  ng := Quotient.lift (fun a => F.cl (-a)) fun a b ⟨u, h⟩ => NF.cl_eq.mpr ⟨-u, by grind⟩
  ml := Quotient.lift₂ (fun a b => F.cl (a * b)) fun a b c d ⟨u, h⟩ ⟨v, g⟩ => NF.cl_eq.mpr ⟨u * d + v * c + u * v * F.f, by grind⟩
  ad_z a := by obtain ⟨a, rfl⟩ := NF.rep a; exact congrArg F.cl (show a + 0 = a by grind)
  ad_c a b := by obtain ⟨a, rfl⟩ := NF.rep a; obtain ⟨b, rfl⟩ := NF.rep b; exact congrArg F.cl (show a + b = b + a by grind)
  ad_a a b c := by obtain ⟨a, rfl⟩ := NF.rep a; obtain ⟨b, rfl⟩ := NF.rep b; obtain ⟨c, rfl⟩ := NF.rep c; exact congrArg F.cl (show a + b + c = a + (b + c) by grind)
  ng_ad a := by obtain ⟨a, rfl⟩ := NF.rep a; exact congrArg F.cl (show -a + a = 0 by grind)
  ml_a a b c := by obtain ⟨a, rfl⟩ := NF.rep a; obtain ⟨b, rfl⟩ := NF.rep b; obtain ⟨c, rfl⟩ := NF.rep c; exact congrArg F.cl (show a * b * c = a * (b * c) by grind)
  ml_c a b := by obtain ⟨a, rfl⟩ := NF.rep a; obtain ⟨b, rfl⟩ := NF.rep b; exact congrArg F.cl (show a * b = b * a by grind)
  ml_o a := by obtain ⟨a, rfl⟩ := NF.rep a; exact congrArg F.cl (show a * 1 = a by grind)
  ds a b c := by obtain ⟨a, rfl⟩ := NF.rep a; obtain ⟨b, rfl⟩ := NF.rep b; obtain ⟨c, rfl⟩ := NF.rep c; exact congrArg F.cl (show a * (b + c) = a * b + a * c by grind)
instance : Lean.Grind.CommRing F.R := F.rd.ring
instance : IntCast F.R := Lean.Grind.Ring.intCast
instance : NatCast F.R := Lean.Grind.Semiring.natCast
theorem NF.cl_add (a b : PZ) : F.cl (a + b) = F.cl a + F.cl b := rfl
theorem NF.cl_mul (a b : PZ) : F.cl (a * b) = F.cl a * F.cl b := rfl
theorem NF.cl_neg (a : PZ) : F.cl (-a) = -F.cl a := rfl
theorem NF.cl_zero : F.cl 0 = 0 := rfl
theorem NF.cl_sub (a b : PZ) : F.cl (a - b) = F.cl a - F.cl b := by
  rw [Lean.Grind.Ring.sub_eq_add_neg, Lean.Grind.Ring.sub_eq_add_neg]; rfl
theorem NF.cl_natR : ∀ k : Nat, F.cl (PZ.rd.nat k) = F.rd.nat k
  | 0 => rfl
  | k + 1 => by rw [RD.nat_succ, RD.nat_succ, ← NF.cl_natR k]; rfl
theorem NF.cl_int : ∀ i : Int, F.cl (i : PZ) = (i : F.R)
  | .ofNat k => NF.cl_natR k
  | .negSucc k => by
    show F.cl (-(PZ.rd.nat (k + 1))) = -(F.rd.nat (k + 1))
    rw [NF.cl_neg, NF.cl_natR]
theorem NF.cl_f : F.cl F.f = 0 := NF.cl_eq.mpr ⟨1, by grind⟩
theorem NF.cl_pow (a : PZ) : ∀ k : Nat, F.cl (a ^ k) = F.cl a ^ k
  | 0 => rfl
  | k + 1 => by rw [Lean.Grind.Semiring.pow_succ, Lean.Grind.Semiring.pow_succ, NF.cl_mul, NF.cl_pow a k]
/-! ### places -/
theorem NF.low (x : F.R) : ∃ r : PZ, r.Bd F.n ∧ x = F.cl r := by
  obtain ⟨a, rfl⟩ := NF.rep x
  obtain ⟨q, s, h1, h2⟩ := PZ.mdiv F.mon a
  exact ⟨s, h2, NF.cl_eq.mpr ⟨q, by grind⟩⟩
theorem NF.low_uniq {r s : PZ} (hr : r.Bd F.n) (hs : s.Bd F.n) (h : F.cl r = F.cl s) : r = s := by
  obtain ⟨u, hu⟩ := NF.cl_eq.mp h
  exact (PZ.mdiv_uniq F.mon (q := 0) (s := r) (q' := u) (s' := s) (by grind) hr hs).2
noncomputable def NF.lo (x : F.R) : PZ := Classical.choose (NF.low x)
theorem NF.lo_bd (x : F.R) : (NF.lo x).Bd F.n := (Classical.choose_spec (NF.low x)).1
theorem NF.cl_lo (x : F.R) : F.cl (NF.lo x) = x := (Classical.choose_spec (NF.low x)).2.symm
theorem NF.lo_mk {r : PZ} (h : r.Bd F.n) : NF.lo (F.cl r) = r := NF.low_uniq (NF.lo_bd _) h (NF.cl_lo _)
theorem NF.lo_add (x y : F.R) : NF.lo (x + y) = NF.lo x + NF.lo y := NF.low_uniq (NF.lo_bd _) ((NF.lo_bd x).add (NF.lo_bd y)) (by rw [NF.cl_lo, NF.cl_add, NF.cl_lo, NF.cl_lo])
theorem NF.lo_sub (x y : F.R) : NF.lo (x - y) = NF.lo x - NF.lo y := NF.low_uniq (NF.lo_bd _) ((NF.lo_bd x).sub (NF.lo_bd y)) (by rw [NF.cl_lo, NF.cl_sub, NF.cl_lo, NF.cl_lo])
theorem NF.lo_int_mul (c : Int) (x : F.R) : NF.lo ((c : F.R) * x) = (c : PZ) * NF.lo x := NF.low_uniq (NF.lo_bd _) ((NF.lo_bd x).int c) (by rw [NF.cl_lo, NF.cl_mul, NF.cl_lo, NF.cl_int])
theorem NF.lo_zero : NF.lo (0 : F.R) = 0 := NF.lo_mk (F := F) (PZ.bd_zero _)
/-- place t of a number -/
noncomputable def NF.co (x : F.R) (t : Nat) : Int := (NF.lo x).co t
theorem NF.co_out (x : F.R) {t : Nat} (h : F.n ≤ t) : NF.co x t = 0 := NF.lo_bd x t h
theorem NF.co_add (x y : F.R) (t : Nat) : NF.co (x + y) t = NF.co x t + NF.co y t := by unfold NF.co; rw [NF.lo_add, PZ.co_add]
theorem NF.co_sub (x y : F.R) (t : Nat) : NF.co (x - y) t = NF.co x t - NF.co y t := by unfold NF.co; rw [NF.lo_sub, PZ.co_sub]
theorem NF.co_int_mul (c : Int) (x : F.R) (t : Nat) : NF.co ((c : F.R) * x) t = c * NF.co x t := by unfold NF.co; rw [NF.lo_int_mul, PZ.co_int_mul]
theorem NF.co_zero (t : Nat) : NF.co (0 : F.R) t = 0 := by unfold NF.co; rw [NF.lo_zero]; rfl
theorem NF.ext {x y : F.R} (h : ∀ t, t < F.n → NF.co x t = NF.co y t) : x = y := by
  rw [← NF.cl_lo x, ← NF.cl_lo y]
  congr 1
  exact PZ.ext fun t => by
    by_cases ht : t < F.n
    · exact h t ht
    · rw [NF.lo_bd x t (by omega), NF.lo_bd y t (by omega)]
theorem NF.int_cancel {c : Int} (hc : c ≠ 0) {x y : F.R} (h : (c : F.R) * x = (c : F.R) * y) : x = y := NF.ext fun t _ => by
  have := congrArg (fun z => NF.co z t) h
  simp only [NF.co_int_mul] at this
  exact Int.eq_of_mul_eq_mul_left hc this
/-- a row as a number -/
def NF.vec (F : NF) (l : List Int) : F.R := F.cl (PZ.of l)
theorem NF.co_intC (hn : F.n ≠ 0) (c : Int) (t : Nat) : NF.co (c : F.R) t = if t = 0 then c else 0 := by
  unfold NF.co
  rw [← NF.cl_int, NF.lo_mk (fun t ht => by rw [PZ.co_int, if_neg (by omega)]), PZ.co_int]
/-- p divides all places -/
def NF.Dvp (p : Int) (x : F.R) : Prop := ∀ t, p ∣ NF.co x t
theorem NF.dvp_iff {p : Int} {x : F.R} : NF.Dvp p x ↔ ∃ y : F.R, x = (p : F.R) * y := by
  constructor
  · intro h
    obtain ⟨b, e⟩ := PZ.dvp_iff.mp (show (NF.lo x).Dvp p from h)
    exact ⟨F.cl b, by rw [← NF.cl_int, ← NF.cl_mul, ← e, NF.cl_lo]⟩
  · rintro ⟨y, rfl⟩ t
    rw [NF.co_int_mul]
    exact Int.dvd_mul_right p _
/-! ### where the polynomial does not fall apart -/
def NF.Irr (F : NF) : Prop := ∀ m, 1 ≤ m → m < F.n → ∀ q d : PZ, q.Mon (F.n - m) → d.Mon m → F.f ≠ q * d
theorem NF.inv (hi : F.Irr) (y : F.R) (hy : y ≠ 0) : ∃ (w : F.R) (c : Int), c ≠ 0 ∧ w * y = (c : F.R) := by
  -- the least degree of a multiple
  have key : ∀ (N : Nat) (d : F.R), d ≠ 0 → (∃ w, d = w * y) → (NF.lo d).Bd N → ∃ (w : F.R) (c : Int), c ≠ 0 ∧ w * y = (c : F.R) := by
    intro N
    induction N with
    | zero => exact fun d hd _ hb => absurd (by rw [← NF.cl_lo d, show NF.lo d = 0 from PZ.ext fun t => hb t (Nat.zero_le _), NF.cl_zero]) hd
    | succ N ih =>
      intro d hd ⟨w, hw⟩ hb
      by_cases ht : (NF.lo d).co N = 0
      · refine ih d hd ⟨w, hw⟩ fun t htt => ?_
        by_cases e : t = N
        · rw [e]; exact ht
        · exact hb t (by omega)
      · cases N with
        | zero =>
          refine ⟨w, (NF.lo d).co 0, ht, ?_⟩
          rw [← hw, ← NF.cl_int, ← NF.cl_lo d]
          congr 1
          rw [NF.cl_lo]
          exact PZ.ext fun t => by
            rw [PZ.co_int]
            cases t with
            | zero => rfl
            | succ t => rw [hb _ (by omega), if_neg (by omega)]
        | succ N =>
          have hlt : N + 1 < F.n := by
            apply Classical.byContradiction
            intro z
            exact ht (NF.lo_bd d _ (by omega))
          obtain ⟨k, q, s, h1, h2⟩ := PZ.pdiv hb (F.n + 1) F.f F.mon.bd
          have hc : ((NF.lo d).co (N + 1) ^ k : Int) ≠ 0 := Int.pow_ne_zero ht
          by_cases hs : s = 0
          · obtain ⟨hm, q', d', m1, m2, m3⟩ := PZ.gauss F.mon _ _ q (NF.lo d) (N + 1) (Nat.le_refl _) hc hb ht (by grind)
            exact absurd m3 (hi (N + 1) (by omega) hlt q' d' m1 m2)
          · have hsb : s.Bd F.n := h2.mono (by omega)
            refine ih (F.cl s) (fun z => hs ?_) ⟨-(F.cl q * w), ?_⟩ (by rw [NF.lo_mk hsb]; exact h2)
            · exact NF.low_uniq hsb (PZ.bd_zero _) z
            · have e := congrArg F.cl h1
              rw [NF.cl_mul, NF.cl_f, NF.cl_add, NF.cl_mul, NF.cl_lo, hw] at e
              grind
  exact key F.n y hy ⟨1, by grind⟩ (NF.lo_bd y)
theorem NF.domain (hi : F.Irr) {x y : F.R} (h : x * y = 0) : x = 0 ∨ y = 0 := by
  by_cases hx : x = 0
  · exact .inl hx
  · obtain ⟨w, c, hc, e⟩ := NF.inv hi x hx
    refine .inr (NF.int_cancel hc ?_)
    rw [← e]
    grind
theorem NF.pow_ne (hi : F.Irr) {a : F.R} (ha : a ≠ 0) : ∀ k : Nat, a ^ k ≠ 0
  | 0 => fun z => by
    have : NF.co (1 : F.R) 0 = 0 := by rw [show (1 : F.R) = 0 from z, NF.co_zero]
    rw [show (1 : F.R) = ((1 : Int) : F.R) from rfl, NF.co_intC (by have := F.pos; omega)] at this
    simp at this
  | k + 1 => fun z => by
    rw [Lean.Grind.Semiring.pow_succ] at z
    rcases NF.domain hi z with z | z
    · exact NF.pow_ne hi ha k z
    · exact ha z
end
end T
set_option maxRecDepth 100000
set_option maxHeartbeats 4000000
namespace T
open PySem PySem.Spec PyProof.Rows L2
/-! ### rows and the ring of a polynomial -/
/-- the ring of a row that ends with 1 -/
structure NfOf (F : NF) (f : List Int) (n : Nat) : Prop where
  f : PZ.of f = F.f
  n : F.n = n
theorem nf_of {f : List Int} {n : Nat} (hf : f.length = n + 1) (h1 : co f n = 1) (hn : 1 ≤ n) : ∃ F : NF, NfOf F f n :=
  ⟨⟨PZ.of f, n, ⟨by rw [← hf]; exact PZ.of_bd f, h1⟩, hn⟩, rfl, rfl⟩
section
variable {F : NF} {f : List Int} {n : Nat}
/-! ### where it does not fall apart -/
theorem mon1_row {d : PZ} (h : d.Mon 1) : d = PZ.of [d.co 0, 1] := PZ.ext fun t => by
  match t with
  | 0 => rfl
  | 1 => exact h.top
  | t + 2 => rw [h.bd _ (by omega)]; rfl
theorem mon2_row {d : PZ} (h : d.Mon 2) : d = PZ.of [d.co 0, d.co 1, 1] := PZ.ext fun t => by
  match t with
  | 0 => rfl
  | 1 => rfl
  | 2 => exact h.top
  | t + 3 => rw [h.bd _ (by omega)]; rfl
/-! ### norms -/
end
/-! ### rings that are made -/
end T
set_option maxRecDepth 100000
set_option maxHeartbeats 4000000
namespace T
open PySem PySem.Spec PyProof.Rows L2
/-! ### quotients of numbers -/
section
variable {r : Rg} {F : NF} {x y : List Int} {n b c : Nat} {A : List (List Int)}
end
end T
set_option maxRecDepth 100000
set_option maxHeartbeats 4000000
namespace T
open PySem PySem.Spec PyProof.Rows L2
/-! ### a list built place by place; the minors of the first column -/
end T
set_option maxRecDepth 100000
set_option maxHeartbeats 4000000
namespace T
open PySem PySem.Spec PyProof.Rows L2
/-! ### polynomials modulo a prime, as polynomials over Z -/
def Eqp (p : Int) (a b : PZ) : Prop := ∃ c : PZ, a = b + (p : PZ) * c
def Dvm (p : Int) (g a : PZ) : Prop := ∃ q c : PZ, a = q * g + (p : PZ) * c
section
variable {p : Int} {a b c d g h : PZ}
theorem Eqp.refl (p : Int) (a : PZ) : Eqp p a a := ⟨0, by grind⟩
theorem Eqp.symm : Eqp p a b → Eqp p b a := fun ⟨c, e⟩ => ⟨-c, by grind⟩
theorem Eqp.trans : Eqp p a b → Eqp p b c → Eqp p a c := fun ⟨u, e⟩ ⟨v, f⟩ => ⟨u + v, by grind⟩
theorem Eqp.add : Eqp p a b → Eqp p c d → Eqp p (a + c) (b + d) := fun ⟨u, e⟩ ⟨v, f⟩ => ⟨u + v, by grind⟩
theorem Eqp.mul : Eqp p a b → Eqp p c d → Eqp p (a * c) (b * d) := fun ⟨u, e⟩ ⟨v, f⟩ => ⟨u * d + v * b + (p : PZ) * u * v, by grind⟩
theorem Eqp.pow (h : Eqp p a b) : ∀ k : Nat, Eqp p (a ^ k) (b ^ k)
  | 0 => by rw [Lean.Grind.Semiring.pow_zero, Lean.Grind.Semiring.pow_zero]; exact .refl _ _
  | k + 1 => by rw [Lean.Grind.Semiring.pow_succ, Lean.Grind.Semiring.pow_succ]; exact (Eqp.pow h k).mul h
theorem Eqp.iff : Eqp p a b ↔ (a - b).Dvp p := by
  rw [PZ.dvp_iff]
  exact ⟨fun ⟨c, e⟩ => ⟨c, by grind⟩, fun ⟨c, e⟩ => ⟨c, by grind⟩⟩
theorem Eqp.cg {f g : List Int} : Eqp p (PZ.of f) (PZ.of g) ↔ CgP p f g := by
  rw [Eqp.iff]
  constructor
  · intro h t
    obtain ⟨k, e⟩ := h t
    rw [PZ.co_sub, PZ.co_of, PZ.co_of] at e
    exact ⟨k, by omega⟩
  · intro h t
    obtain ⟨k, e⟩ := h t
    rw [PZ.co_sub, PZ.co_of, PZ.co_of]
    exact ⟨k, by omega⟩
theorem Dvm.self : Dvm p g g := ⟨1, 0, by grind⟩
theorem Dvm.of_dvp (h : a.Dvp p) : Dvm p g a := by
  obtain ⟨c, e⟩ := PZ.dvp_iff.mp h
  exact ⟨0, c, by grind⟩
theorem Dvm.congr (e : Eqp p a b) : Dvm p g a → Dvm p g b := fun ⟨q, c, h⟩ => by
  obtain ⟨u, e⟩ := e
  exact ⟨q, c - u, by grind⟩
theorem Dvm.congr_l (e : Eqp p g h) : Dvm p g a → Dvm p h a := fun ⟨q, c, f⟩ => by
  obtain ⟨u, e⟩ := e
  exact ⟨q, c + q * u, by grind⟩
theorem Dvm.add : Dvm p g a → Dvm p g b → Dvm p g (a + b) := fun ⟨q, c, e⟩ ⟨r, d, f⟩ => ⟨q + r, c + d, by grind⟩
theorem Dvm.sub : Dvm p g a → Dvm p g b → Dvm p g (a - b) := fun ⟨q, c, e⟩ ⟨r, d, f⟩ => ⟨q - r, c - d, by grind⟩
theorem Dvm.mul (b : PZ) : Dvm p g a → Dvm p g (b * a) := fun ⟨q, c, e⟩ => ⟨b * q, b * c, by grind⟩
theorem Dvm.left : Dvm p g (g * a) := ⟨a, 0, by grind⟩
theorem Dvm.right : Dvm p g (a * g) := ⟨a, 0, by grind⟩
/-- a prime with inverses -/
structure InvP (p : Int) : Prop where
  pr : PrI p
  inv : ∀ c : Int, ¬ p ∣ c → ∃ d k : Int, c * d = 1 + p * k
theorem invP_of {p : Int} (h : p ∈ primesL) : InvP p := by
  have hP := isP_of h
  have inv : ∀ c : Int, ¬ p ∣ c → ∃ d k : Int, c * d = 1 + p * k := fun c hc => by
    have h0 : c % p ≠ 0 := fun z => hc (Int.dvd_of_emod_eq_zero z)
    obtain ⟨t, _, _, _, k, e⟩ := turned_ok hP.1 (by have := hP.1; have := hP.2.1; omega) (hP.2.2 c h0)
    exact ⟨t, k, by rw [Int.mul_comm, e]⟩
  refine ⟨⟨hP.1, fun a b hab => ?_⟩, inv⟩
  by_cases ha : p ∣ a
  · exact .inl ha
  · obtain ⟨d, k, e⟩ := inv a ha
    right
    obtain ⟨m, hm⟩ := hab
    exact ⟨m * d - k * b, by grind⟩
/-- monic, and no product modulo p -/
structure Irp (p : Int) (g : PZ) (m : Nat) : Prop where
  mon : g.Mon m
  pos : 1 ≤ m
  no : ∀ (k : Nat) (d : PZ), 1 ≤ k → k < m → d.Mon k → ¬ Dvm p d g
theorem irp_lin (r : Int) : Irp p (PZ.of [r, 1]) 1 := ⟨⟨fun t ht => co_out ht, rfl⟩, Nat.le_refl _, fun k d h1 h2 => by omega⟩
theorem xp_co (N t : Nat) : (PZ.xp N).co t = if t = N then 1 else 0 := by
  have := PZ.co_xp N 1 t
  rw [show PZ.xp N * 1 = PZ.xp N by grind] at this
  rw [this]
  by_cases h : N ≤ t
  · rw [if_pos h, PZ.co_one]
    by_cases e : t = N
    · rw [if_pos e, if_pos (by omega)]
    · rw [if_neg e, if_neg (by omega)]
  · rw [if_neg h, if_neg (by omega)]
theorem bezout (hp : InvP p) {m : Nat} (hg : Irp p g m) (h : ¬ Dvm p g a) : ∃ u v c : PZ, 1 = u * g + v * a + (p : PZ) * c := by
  have key : ∀ (N : Nat) (d : PZ), N ≤ m + 1 → ¬ d.Dvp p → (∃ u v c : PZ, d = u * g + v * a + (p : PZ) * c) → d.Bd N → ∃ u v c : PZ, 1 = u * g + v * a + (p : PZ) * c := by
    intro N
    induction N with
    | zero => exact fun d _ hd _ hb => absurd (fun t => by rw [hb t (Nat.zero_le _)]; exact Int.dvd_zero p) hd
    | succ N ih =>
      intro d hN hd ⟨u, v, c, e⟩ hb
      by_cases ht : p ∣ d.co N
      · obtain ⟨k, hk⟩ := ht
        have e1 : d - (p : PZ) * ((k : PZ) * PZ.xp N) = u * g + v * a + (p : PZ) * (c - (k : PZ) * PZ.xp N) := by grind
        refine ih (d - (p : PZ) * ((k : PZ) * PZ.xp N)) (by omega) (fun z => hd fun t => ?_) ⟨u, v, _, e1⟩ fun t htt => ?_
        · have := z t
          rw [PZ.co_sub, PZ.co_int_mul] at this
          have h2 := Int.dvd_add this (Int.dvd_mul_right p (PZ.co ((k : PZ) * PZ.xp N) t))
          rwa [Int.sub_add_cancel] at h2
        · rw [PZ.co_sub, PZ.co_int_mul, PZ.co_int_mul, xp_co]
          by_cases et : t = N
          · rw [if_pos et, et, hk, Int.mul_one]; omega
          · rw [if_neg et, hb t (by omega), Int.mul_zero, Int.mul_zero]; rfl
      · obtain ⟨s, k, hs⟩ := hp.inv _ ht
        -- monic
        have hm : ((s : PZ) * d - (p : PZ) * ((k : PZ) * PZ.xp N)).Mon N := by
          refine ⟨fun t htt => ?_, ?_⟩
          · rw [PZ.co_sub, PZ.co_int_mul, PZ.co_int_mul, PZ.co_int_mul, xp_co, if_neg (by omega), hb t htt, Int.mul_zero, Int.mul_zero, Int.mul_zero]; rfl
          · rw [PZ.co_sub, PZ.co_int_mul, PZ.co_int_mul, PZ.co_int_mul, xp_co, if_pos rfl, Int.mul_one, Int.mul_comm s, hs]; omega
        have e1 : (s : PZ) * d - (p : PZ) * ((k : PZ) * PZ.xp N) = ((s : PZ) * u) * g + ((s : PZ) * v) * a + (p : PZ) * ((s : PZ) * c - (k : PZ) * PZ.xp N) := by grind
        generalize (s : PZ) * d - (p : PZ) * ((k : PZ) * PZ.xp N) = d1 at hm e1
        generalize (s : PZ) * u = u1 at e1
        generalize (s : PZ) * v = v1 at e1
        generalize (s : PZ) * c - (k : PZ) * PZ.xp N = c1 at e1
        cases N with
        | zero =>
          have : d1 = 1 := PZ.ext fun t => by
            rw [PZ.co_one]
            cases t with
            | zero => exact hm.top
            | succ t => rw [hm.bd _ (by omega), if_neg (by omega)]
          exact ⟨u1, v1, c1, by rw [← this, e1]⟩
        | succ N =>
          obtain ⟨q, s1, f1, b1⟩ := PZ.mdiv hm g
          obtain ⟨q', s2, f2, b2⟩ := PZ.mdiv hm a
          by_cases z1 : s1.Dvp p
          · by_cases z2 : s2.Dvp p
            · obtain ⟨w1, x1⟩ := PZ.dvp_iff.mp z1
              obtain ⟨w2, x2⟩ := PZ.dvp_iff.mp z2
              by_cases hlt : N + 1 < m
              · exact absurd ⟨q, w1, by rw [f1, x1]⟩ (hg.no (N + 1) d1 (by omega) hlt hm)
              · have hNm : N + 1 = m := by omega
                subst hNm
                have := PZ.mdiv_uniq hm (q := q) (s := s1) (q' := 1) (s' := g - d1) (by grind) b1 (fun t htt => by
                  rw [PZ.co_sub]
                  by_cases et : t = N + 1
                  · rw [et, hg.mon.top, hm.top]; rfl
                  · rw [hg.mon.bd t (by omega), hm.bd t (by omega)]; rfl)
                obtain ⟨rfl, hs1⟩ := this
                exact absurd ⟨q', w2 - q' * w1, by grind⟩ h
            · exact ih s2 (by omega) z2 ⟨-(q' * u1), 1 - q' * v1, -(q' * c1), by grind⟩ b2
          · exact ih s1 (by omega) z1 ⟨1 - q * u1, -(q * v1), -(q * c1), by grind⟩ b1
  refine key (m + 1) g (Nat.le_refl _) (fun z => ?_) ⟨1, 0, 0, by grind⟩ hg.mon.bd
  have := z m
  rw [hg.mon.top] at this
  have h1 := hp.pr.1
  have := Int.le_of_dvd (by decide) this
  omega
theorem Irp.prime (hp : InvP p) {m : Nat} (hg : Irp p g m) (h : Dvm p g (a * b)) : Dvm p g a ∨ Dvm p g b := by
  by_cases ha : Dvm p g a
  · exact .inl ha
  · obtain ⟨u, v, c, e⟩ := bezout hp hg ha
    obtain ⟨q, d, f⟩ := h
    exact .inr ⟨b * u + v * q, v * d + b * c, by grind⟩
theorem Irp.ndv_one (hp : InvP p) {m : Nat} (hg : Irp p g m) : ¬ Dvm p g 1 := fun ⟨q, c, e⟩ => by
  by_cases hq : q.Dvp p
  · obtain ⟨q1, hq⟩ := PZ.dvp_iff.mp hq
    have : (1 : PZ).Dvp p := PZ.dvp_iff.mpr ⟨q1 * g + c, by grind⟩
    have := this 0
    rw [PZ.co_one, if_pos rfl] at this
    have h1 := hp.pr.1
    have := Int.le_of_dvd (by decide) this
    omega
  · obtain ⟨n, a1, a2, e1, d1, t1⟩ := PZ.not_dvp hq
    have ht := (PZ.mul_top d1 hg.mon.bd).2
    have hm := hg.pos
    have e2 : a1 * g = 1 - (p : PZ) * (c + a2 * g) := by grind
    rw [e2, PZ.co_sub, PZ.co_one, if_neg (by omega), PZ.co_int_mul, hg.mon.top, Int.mul_one] at ht
    exact t1 ⟨-(c + a2 * g).co (n + m), by rw [← ht, Int.mul_neg]; omega⟩
theorem Irp.pow (hp : InvP p) {m : Nat} (hg : Irp p g m) : ∀ k : Nat, Dvm p g (a ^ k) → Dvm p g a
  | 0, h => by
    rw [Lean.Grind.Semiring.pow_zero] at h
    exact absurd h (hg.ndv_one hp)
  | k + 1, h => by
    rw [Lean.Grind.Semiring.pow_succ] at h
    rcases hg.prime hp h with z | z
    · exact hg.pow hp k z
    · exact z
theorem bezout_pow (hp : InvP p) {m : Nat} (hg : Irp p g m) (h : ¬ Dvm p g a) : ∀ k : Nat, ∃ u v c : PZ, 1 = u * g ^ k + v * a + (p : PZ) * c
  | 0 => ⟨1, 0, 0, by rw [Lean.Grind.Semiring.pow_zero]; grind⟩
  | k + 1 => by
    obtain ⟨u, v, c, e⟩ := bezout hp hg h
    obtain ⟨u1, v1, c1, e1⟩ := bezout_pow hp hg h k
    refine ⟨u1 * u, v1 * (u * g + v * a + (p : PZ) * c) + u1 * g ^ k * v, c1 * (u * g + v * a + (p : PZ) * c) + u1 * g ^ k * c, ?_⟩
    rw [Lean.Grind.Semiring.pow_succ]
    grind
theorem Irp.cancel (hp : InvP p) {m : Nat} (hg : Irp p g m) (h : ¬ Dvm p g a) {k : Nat} (hd : Dvm p (g ^ k) (a * b)) : Dvm p (g ^ k) b := by
  obtain ⟨u, v, c, e⟩ := bezout_pow hp hg h k
  obtain ⟨q, d, f⟩ := hd
  exact ⟨b * u + v * q, v * d + b * c, by grind⟩
/-- equal monic ones -/
theorem mon_dvm {m : Nat} (hg : g.Mon m) (hh : h.Mon m) (d : Dvm p g h) (h1 : 1 < p) : Eqp p g h := by
  obtain ⟨q, c, e⟩ := d
  obtain ⟨q1, s1, f1, b1⟩ := PZ.mdiv hg c
  have e2 : h = (q + (p : PZ) * q1) * g + (p : PZ) * s1 := by grind
  have := PZ.mdiv_uniq hg (q := q + (p : PZ) * q1) (s := (p : PZ) * s1) (q' := 1) (s' := h - g) (by grind) (b1.int p) (fun t ht => by
    rw [PZ.co_sub]
    by_cases et : t = m
    · rw [et, hg.top, hh.top]; rfl
    · rw [hg.bd t (by omega), hh.bd t (by omega)]; rfl)
  exact ⟨-s1, by grind⟩
theorem Irp.eq_of (hp : InvP p) {m k : Nat} (hg : Irp p g m) (hh : Irp p h k) (d : Dvm p g h) : m = k ∧ Eqp p g h := by
  have hmk : m ≤ k := by
    apply Classical.byContradiction
    intro z
    obtain ⟨q, c, e⟩ := d
    -- h = q g + p c with deg h < deg g
    by_cases hq : q.Dvp p
    · obtain ⟨q1, hq⟩ := PZ.dvp_iff.mp hq
      have : h.Dvp p := PZ.dvp_iff.mpr ⟨q1 * g + c, by grind⟩
      have := this k
      rw [hh.mon.top] at this
      have h1 := hp.pr.1
      have := Int.le_of_dvd (by decide) this
      omega
    · obtain ⟨n, a1, a2, e1, d1, t1⟩ := PZ.not_dvp hq
      have ht := (PZ.mul_top d1 hg.mon.bd).2
      have e2 : a1 * g = h - (p : PZ) * (c + a2 * g) := by grind
      rw [e2, PZ.co_sub, hh.mon.bd _ (by omega), PZ.co_int_mul, hg.mon.top, Int.mul_one] at ht
      exact t1 ⟨-(c + a2 * g).co (n + m), by rw [← ht, Int.mul_neg]; omega⟩
  have hkm : k = m := by
    by_cases z : m < k
    · exact absurd d (hh.no m g hg.pos z hg.mon)
    · omega
  subst hkm
  exact ⟨rfl, mon_dvm hg.mon hh.mon d hp.pr.1⟩
end
end T
set_option maxRecDepth 100000
set_option maxHeartbeats 4000000
namespace T
open PySem PySem.Spec PyProof.Rows L2
/-! ### values modulo p -/
theorem loopM_app {α C : Type} (f : C → α → M C) : ∀ (xs ys : List α) (c : C), loopM f c (xs ++ ys) = (loopM f c xs).bind fun d => loopM f d ys
  | [], ys, c => rfl
  | x :: xs, ys, c => by
    show (f c x).bind _ = M.bind ((f c x).bind _) _
    rw [bind_bind]
    congr 1
    funext d
    exact loopM_app f xs ys d
theorem mod_at_ok {x p : Int} (hp : 0 < p) (hx : x.natAbs < 18446744073709551616) (f : List Int) : m_mod_at f x p = ok (ev f x % p) := by
  unfold m_mod_at
  rw [bind_ok, bind_ok]
  have key : ∀ f : List Int, loopM (fun (value5 : Int) place6 => (M.bind (M.bind (M.bind (pmul value5 x) fun u8 => ok (u8 + place6)) fun u9 => (pmod u9 p)) fun value7 => ok (value7))) 0 (List.reverse f) = ok (ev f x % p) := by
    intro f
    induction f with
    | nil => show ok (0 : Int) = ok (0 % p); rw [Int.zero_emod]
    | cons a f ih =>
      rw [List.reverse_cons, loopM_app, ih, bind_ok]
      show M.bind (M.bind (M.bind (M.bind (pmul (ev f x % p) x) fun u8 => ok (u8 + a)) fun u9 => (pmod u9 p)) fun value7 => ok (value7)) (fun c' => ok c') = _
      rw [pmul_right (by rw [pow64]; exact hx), bind_ok, bind_ok, pmod_pos hp, bind_ok, bind_ok]
      show ok ((ev f x % p * x + a) % p) = ok ((a + x * ev f x) % p)
      congr 1
      have h : Cg p (ev f x % p * x + a) (a + x * ev f x) := by
        have := ((Cg.mod p (ev f x)).mul (Cg.refl p x)).add (Cg.refl p a)
        rwa [show ev f x * x + a = a + x * ev f x by rw [Int.mul_comm]; omega] at this
      exact Cg.iff.mp h
  rw [key, bind_ok]
/-- the value of a polynomial of Z[x] -/
theorem ev_cg {p : Int} (x : Int) : ∀ {f g : List Int}, CgP p f g → Cg p (ev f x) (ev g x)
  | [], [], _ => .refl _ _
  | [], b :: g, h => by
    have h0 := h 0
    have ih := ev_cg x (f := []) (g := g) fun t => by have := h (t + 1); rwa [co_succ] at this
    show Cg p 0 (b + x * ev g x)
    have := (show Cg p 0 b from h0).add ((Cg.refl p x).mul ih)
    rwa [show (0 : Int) + x * ev [] x = 0 by show 0 + x * 0 = 0; omega] at this
  | a :: f, [], h => by
    have h0 := h 0
    have ih := ev_cg x (f := f) (g := []) fun t => by have := h (t + 1); rwa [co_succ] at this
    show Cg p (a + x * ev f x) 0
    have := (show Cg p a 0 from h0).add ((Cg.refl p x).mul ih)
    rwa [show (0 : Int) + x * ev [] x = 0 by show 0 + x * 0 = 0; omega] at this
  | a :: f, b :: g, h => by
    have h0 := h 0
    have ih := ev_cg x (f := f) (g := g) fun t => by have := h (t + 1); rwa [co_succ, co_succ] at this
    exact (show Cg p a b from h0).add ((Cg.refl p x).mul ih)
/-- a root and a linear divisor -/
theorem root_dvm {p r : Int} {f : List Int} (hp : 1 < p) : Dvm p (PZ.of [-r, 1]) (PZ.of f) ↔ Cg p (ev f r) 0 := by
  have hm : (PZ.of [-r, 1]).Mon 1 := ⟨fun t ht => co_out ht, rfl⟩
  have ez : ev [-r, 1] r = 0 := by show -r + r * (1 + r * 0) = 0; grind
  constructor
  · rintro ⟨q, c, e⟩
    obtain ⟨q, rfl⟩ := PZ.rep q
    have h : CgP p f (mulP q [-r, 1]) := Eqp.cg.mp ⟨c, e⟩
    have := ev_cg r h
    rwa [mulP_ev, ez, Int.mul_zero] at this
  · intro h
    obtain ⟨q, s, e, b⟩ := PZ.mdiv hm (PZ.of f)
    obtain ⟨q, rfl⟩ := PZ.rep q
    have hs : s = PZ.of [s.co 0] := PZ.ext fun t => by
      cases t with
      | zero => rfl
      | succ t => rw [b _ (by omega)]; rfl
    generalize s.co 0 = s0 at hs
    subst hs
    have e' : ∀ t, co f t = co (addP (mulP q [-r, 1]) [s0]) t := fun t => congrArg (fun x => PZ.co x t) e
    rw [ev_co r e', addP_ev, mulP_ev, ez, Int.mul_zero, show ev [s0] r = s0 by show s0 + r * 0 = s0; omega, Int.zero_add] at h
    obtain ⟨k, hk⟩ := h
    refine ⟨PZ.of q, PZ.of [k], ?_⟩
    rw [e, hk, Int.zero_add, ← PZ.intC, ← PZ.intC]
    grind
/-- a low divisor of a monic one has a monic fellow -/
theorem dvm_low {p : Int} {d s : PZ} {k : Nat} (hd : d.Mon k) (hs : s.Bd k) (h : Dvm p d s) : s.Dvp p := by
  obtain ⟨q, c, e⟩ := h
  by_cases hq : q.Dvp p
  · obtain ⟨q1, hq⟩ := PZ.dvp_iff.mp hq
    exact PZ.dvp_iff.mpr ⟨q1 * d + c, by grind⟩
  · obtain ⟨n, a1, a2, e1, d1, t1⟩ := PZ.not_dvp hq
    have ht := (PZ.mul_top d1 hd.bd).2
    have e2 : a1 * d = s - (p : PZ) * (c + a2 * d) := by grind
    rw [e2, PZ.co_sub, hs _ (by omega), PZ.co_int_mul, hd.top, Int.mul_one] at ht
    exact absurd ⟨-(c + a2 * d).co (n + k), by rw [← ht, Int.mul_neg]; omega⟩ t1
theorem cofac {p : Int} {d f : PZ} {k m : Nat} (hd : d.Mon k) (hf : f.Mon m) (hkm : k ≤ m) (h : Dvm p d f) : ∃ q : PZ, q.Mon (m - k) ∧ Eqp p f (q * d) := by
  obtain ⟨q, s, e, b⟩ := PZ.mdiv hd f
  have hs : s.Dvp p := dvm_low hd b (by
    have : s = f - q * d := by grind
    rw [this]
    exact h.sub Dvm.right)
  obtain ⟨c, hc⟩ := PZ.dvp_iff.mp hs
  refine ⟨q, ?_, ⟨c, by grind⟩⟩
  -- q is monic
  have hq0 : q ≠ 0 := fun z => by
    have : f = s := by rw [e, z]; grind
    have h1 := hf.top
    rw [this, b m hkm] at h1
    omega
  obtain ⟨l, h1, h2⟩ := PZ.deg hq0
  obtain ⟨p1, p2⟩ := PZ.mul_top h1 hd.bd
  have ef : q * d = f - s := by grind
  rw [ef, PZ.co_sub, hd.top, Int.mul_one] at p2
  have hlm : l + k = m := by
    apply Classical.byContradiction
    intro z
    by_cases hlt : m < l + k
    · rw [hf.bd _ (by omega), b _ (by omega)] at p2
      omega
    · have := p1 m (by omega)
      rw [ef, PZ.co_sub, hf.top, b m hkm] at this
      omega
  rw [show m - k = l by omega]
  refine ⟨h1, ?_⟩
  rw [← p2, hlm, hf.top, b m hkm]
  rfl
theorem prange2_ok {i j : Int} (h1 : i.natAbs < 1000000000) (h2 : j.natAbs < 1000000000) : prange2 i j = ok (rangeL i (j - i).toNat) := by
  have e : (2 : Int) ^ 62 = 4611686018427387904 := by decide
  unfold prange2
  exact grd_pos (by rw [e]; omega) _
theorem mem_range_of {lo x : Int} {n : Nat} (h1 : lo ≤ x) (h2 : x < lo + n) : x ∈ rangeL lo n := by
  unfold rangeL
  rw [List.mem_map]
  exact ⟨(x - lo).toNat, List.mem_range.mpr (by omega), by omega⟩
theorem Tot.loopFall {α ρ : Type} {f : Unit → α → M (Fl Unit ρ)} (N : α → Prop) (A : ρ → Prop) : ∀ {xs : List α}, (∀ x ∈ xs, Tot (f () x) fun r => (r = Fl.nx () ∧ N x) ∨ ∃ a, r = Fl.rt a ∧ A a) → Tot (T.loopF f () xs) fun r => (r = Fl.nx () ∧ ∀ x ∈ xs, N x) ∨ ∃ a, r = Fl.rt a ∧ A a
  | [], _ => ⟨_, rfl, .inl ⟨rfl, fun x hx => nomatch hx⟩⟩
  | x :: xs, h => by
    obtain ⟨r, e, hr⟩ := h x List.mem_cons_self
    show Tot ((f () x).bind (flk fun c => T.loopF f c xs)) _
    rw [e, bind_ok]
    rcases hr with ⟨rfl, n⟩ | ⟨a, rfl, ha⟩
    · obtain ⟨r, e, hr⟩ := Tot.loopFall N A (fun y hy => h y (List.mem_cons_of_mem _ hy))
      refine ⟨r, e, ?_⟩
      rcases hr with ⟨rfl, n2⟩ | hr
      · refine .inl ⟨rfl, fun y hy => ?_⟩
        rcases List.mem_cons.mp hy with rfl | z
        · exact n
        · exact n2 y z
      · exact .inr hr
    · exact .ok (.inr ⟨a, rfl, ha⟩)
end T
set_option maxRecDepth 100000
set_option maxHeartbeats 4000000
namespace T
open PySem PySem.Spec PyProof.Rows L2
/-! ### Z modulo p, for grind -/
def cgS (p : Int) : Setoid Int := ⟨Cg p, Cg.refl p, Cg.symm, Cg.trans⟩
def Zq (p : Int) : Type := Quotient (cgS p)
def zq (p x : Int) : Zq p := Quotient.mk (cgS p) x
theorem zq_iff {p x y : Int} : Cg p x y ↔ zq p x = zq p y := ⟨fun h => Quotient.sound (s := cgS p) h, fun h => Quotient.exact (s := cgS p) h⟩
theorem zq_rep {p : Int} (a : Zq p) : ∃ x, a = zq p x := Quotient.ind (motive := fun a => ∃ x, a = zq p x) (fun x => ⟨x, rfl⟩) a
def Zq.rd (p : Int) : RD (Zq p) where
  z := zq p 0
  o := zq p 1
  ad := Quotient.lift₂ (fun a b => zq p (a + b)) fun a b c d h g => zq_iff.mp (Cg.add h g)
  ng := Quotient.lift (fun a => zq p (-a)) fun a b h => zq_iff.mp (Cg.neg h)
  ml := Quotient.lift₂ (fun a b => zq p (a * b)) fun a b c d h g => zq_iff.mp (Cg.mul h g)
  ad_z a := by obtain ⟨a, rfl⟩ := zq_rep a; exact congrArg (zq p) (show a + 0 = a by grind)
  ad_c a b := by obtain ⟨a, rfl⟩ := zq_rep a; obtain ⟨b, rfl⟩ := zq_rep b; exact congrArg (zq p) (show a + b = b + a by grind)
  ad_a a b c := by obtain ⟨a, rfl⟩ := zq_rep a; obtain ⟨b, rfl⟩ := zq_rep b; obtain ⟨c, rfl⟩ := zq_rep c; exact congrArg (zq p) (show a + b + c = a + (b + c) by grind)
  ng_ad a := by obtain ⟨a, rfl⟩ := zq_rep a; exact congrArg (zq p) (show -a + a = 0 by grind)
  ml_a a b c := by obtain ⟨a, rfl⟩ := zq_rep a; obtain ⟨b, rfl⟩ := zq_rep b; obtain ⟨c, rfl⟩ := zq_rep c; exact congrArg (zq p) (show a * b * c = a * (b * c) by grind)
  ml_c a b := by obtain ⟨a, rfl⟩ := zq_rep a; obtain ⟨b, rfl⟩ := zq_rep b; exact congrArg (zq p) (show a * b = b * a by grind)
  ml_o a := by obtain ⟨a, rfl⟩ := zq_rep a; exact congrArg (zq p) (show a * 1 = a by grind)
  ds a b c := by obtain ⟨a, rfl⟩ := zq_rep a; obtain ⟨b, rfl⟩ := zq_rep b; obtain ⟨c, rfl⟩ := zq_rep c; exact congrArg (zq p) (show a * (b + c) = a * b + a * c by grind)
instance (p : Int) : Lean.Grind.CommRing (Zq p) := (Zq.rd p).ring
theorem zq_add (p x y : Int) : zq p (x + y) = zq p x + zq p y := rfl
theorem zq_mul (p x y : Int) : zq p (x * y) = zq p x * zq p y := rfl
theorem zq_sub (p x y : Int) : zq p (x - y) = zq p x - zq p y := by rw [Int.sub_eq_add_neg, Lean.Grind.Ring.sub_eq_add_neg]; rfl
theorem zq_mod (p x : Int) : zq p (x % p) = zq p x := zq_iff.mp (Cg.mod p x)
theorem zq_0 (p : Int) : zq p 0 = 0 := rfl
theorem zq_1 (p : Int) : zq p 1 = 1 := rfl
theorem zq_mod0 {p x : Int} (hp : 0 < p) : x % p = 0 ↔ zq p x = 0 := by
  rw [← zq_0, ← zq_iff, Cg.iff, Int.zero_emod]
def sqK {C ρ θ : Type} (k : C → M θ) (ι : ρ → θ) : Fl C ρ → M θ
  | .nx c => k c
  | .rt a => ok (ι a)
theorem sq_of {C ρ θ : Type} {r : M (Fl C ρ)} {k : C → M θ} {ι : ρ → θ} {y : Fl C ρ} (h : r = ok y) : sq r k ι = sqK k ι y := by
  subst h
  cases y <;> rfl
/-! ### pairs of quadratics -/
def PairEq (p f0 f1 f2 f3 b a d c : Int) : Prop := Cg p f0 (b * d) ∧ Cg p f1 (a * d + b * c) ∧ Cg p f2 (b + d + a * c) ∧ Cg p f3 (a + c)
theorem pair_mul {p f0 f1 f2 f3 b a d c : Int} : PairEq p f0 f1 f2 f3 b a d c ↔ CgP p [f0, f1, f2, f3, 1] (mulP [b, a, 1] [d, c, 1]) := by
  have e : ∀ t, co (mulP [b, a, 1] [d, c, 1]) t = co [b * d, a * d + b * c, b + d + a * c, a + c, 1] t := fun t => by
    match t with
    | 0 => simp [mulP, addP, scaleP, co]
    | 1 => first | (simp [mulP, addP, scaleP, co]; done) | (simp [mulP, addP, scaleP, co]; grind)
    | 2 => first | (simp [mulP, addP, scaleP, co]; done) | (simp [mulP, addP, scaleP, co]; grind)
    | 3 => first | (simp [mulP, addP, scaleP, co]; done) | (simp [mulP, addP, scaleP, co]; grind)
    | 4 => simp [mulP, addP, scaleP, co]
    | t + 5 => simp [mulP, addP, scaleP, co]
  constructor
  · rintro ⟨h0, h1, h2, h3⟩ t
    rw [e]
    match t with
    | 0 => exact h0
    | 1 => exact h1
    | 2 => exact h2
    | 3 => exact h3
    | 4 => exact .refl _ _
    | t + 5 => exact .of_eq (by simp [co])
  · intro h
    have g : ∀ t, Cg p (co [f0, f1, f2, f3, 1] t) (co [b * d, a * d + b * c, b + d + a * c, a + c, 1] t) := fun t => by rw [← e]; exact h t
    exact ⟨g 0, g 1, g 2, g 3⟩
theorem fin2 {α : Type} (a b : α) : ([a, b] : List α).length ≤ 16777216 := by simp
theorem fin3 {α : Type} (a b c : α) : ([a, b, c] : List α).length ≤ 16777216 := by simp
theorem pair_of_ok {p f0 f1 f2 f3 : Int} (h : p ∈ primesL) (hr : Red p [f0, f1, f2, f3, 1]) :
    Tot (m_pair_of [f0, f1, f2, f3, 1] p) fun o => (o = none ∧ ∀ b, 1 ≤ b → b < p → ∀ a d c, ¬ PairEq p f0 f1 f2 f3 b a d c) ∨
      ∃ b a d c, o = some [[b, a, 1], [d, c, 1]] ∧ 1 ≤ b ∧ b < p ∧ 0 ≤ a ∧ a < p ∧ 0 ≤ d ∧ d < p ∧ 0 ≤ c ∧ c < p ∧ PairEq p f0 f1 f2 f3 b a d c := by
  obtain ⟨p1, p2⟩ := pr_bd h
  have hm := hr.mem
  have h0 := hm f0 (by simp)
  have h1 := hm f1 (by simp)
  have h2 := hm f2 (by simp)
  have h3 := hm f3 (by simp)
  unfold m_pair_of
  rw [show asRec4 (cutL [f0, f1, f2, f3, 1] none (some 4)) = ok (f0, f1, f2, f3) from rfl, bind_ok]
  have tn : ∀ x : Int, x % p ≠ 0 → ∃ t, m_turned x p = ok t ∧ 0 ≤ t ∧ t < p ∧ zq p t * zq p x = 1 := fun x hx => by
    obtain ⟨t, e, t0, t1, hc⟩ := turned_ok (a := x) (p := p) p1 (by omega) ((isP_of h).2.2 x hx)
    exact ⟨t, e, t0, t1, by rw [← zq_mul, ← zq_1]; exact zq_iff.mp hc⟩
  have hpz : ∀ x : Int, x % p = 0 ↔ zq p x = 0 := fun x => zq_mod0 (by omega)
  have main : Tot (M.bind (prange2 1 p) fun xs => loopF (fun (s4 : Unit) b5 => (M.bind (M.bind (M.bind (m_turned b5 p) fun u7 => (pmul f0 u7)) fun u8 => (pmod u8 p)) fun d6 => (M.bind (ok ((!decide (b5 = d6)))) fun z9 => if z9 = true then (M.bind (M.bind (M.bind (M.bind (pmul b5 f3) fun u11 => ok (f1 - u11)) fun u12 => M.bind (m_turned (d6 - b5) p) fun u13 => (pmul u12 u13)) fun u14 => (pmod u14 p)) fun a10 => (M.bind (M.bind (M.bind (M.bind (M.bind (M.bind (pmul a10 (f3 - a10)) fun u15 => ok (u15 + b5)) fun u16 => ok (u16 + d6)) fun u17 => ok (u17 - f2)) fun u18 => (pmod u18 p)) fun u19 => ok (decide (u19 = 0))) fun z20 => if z20 = true then (M.bind (M.bind (M.bind (M.bind (pmod (f3 - a10) p) fun u21 => psz [d6, u21, 1]) fun u22 => psz [[b5, a10, 1], u22]) fun u23 => ok (some u23)) fun a24 => ok (Fl.rt a24)) else ok (Fl.nx ()))) else (M.bind (M.bind (M.bind (M.bind (pmul b5 f3) fun u25 => ok (f1 - u25)) fun u26 => (pmod u26 p)) fun u27 => ok (decide (u27 = 0))) fun z28 => if z28 = true then (sq (ρ := (Option (List (List Int)))) (M.bind (prangeI p) fun xs => loopF (fun (s29 : Unit) a30 => (M.bind (M.bind (M.bind (M.bind (M.bind (M.bind (pmul a30 (f3 - a30)) fun u31 => ok (u31 + b5)) fun u32 => ok (u32 + d6)) fun u33 => ok (u33 - f2)) fun u34 => (pmod u34 p)) fun u35 => ok (decide (u35 = 0))) fun z36 => if z36 = true then (M.bind (M.bind (M.bind (M.bind (pmod (f3 - a30) p) fun u37 => psz [d6, u37, 1]) fun u38 => psz [[b5, a30, 1], u38]) fun u39 => ok (some u39)) fun a40 => ok (Fl.rt a40)) else ok (Fl.nx ()))) () xs) (fun s41 => ok (Fl.nx ())) (fun a => Fl.rt a)) else ok (Fl.nx ()))))) () xs)
      fun r => (r = Fl.nx () ∧ ∀ b ∈ rangeL 1 (p - 1).toNat, ∀ a d c, ¬ PairEq p f0 f1 f2 f3 b a d c) ∨ ∃ o, r = Fl.rt o ∧ ∃ b a d c, o = some [[b, a, 1], [d, c, 1]] ∧ 1 ≤ b ∧ b < p ∧ 0 ≤ a ∧ a < p ∧ 0 ≤ d ∧ d < p ∧ 0 ≤ c ∧ c < p ∧ PairEq p f0 f1 f2 f3 b a d c := by
    rw [prange2_ok (by decide) (by omega), bind_ok]
    refine Tot.loopFall _ _ fun z hz => ?_
    have hz' := mem_rangeL hz
    have hz1 : 1 ≤ z ∧ z < p := by omega
    clear hz'
    obtain ⟨t, et, t0, t1, tz⟩ := tn z (by rw [Int.emod_eq_of_lt (by omega) (by omega)]; omega)
    try dsimp only
    rw [et, bind_ok, pmul_left (by rw [pow64]; omega), bind_ok, pmod_pos (by omega), bind_ok, bind_ok]
    have hd0 := Int.emod_nonneg (f0 * t) (show p ≠ 0 by omega)
    have hd1 := Int.emod_lt_of_pos (f0 * t) (show 0 < p by omega)
    have hdz : zq p (f0 * t % p) = zq p f0 * zq p t := by rw [zq_mod, zq_mul]
    generalize f0 * t % p = dd at hd0 hd1 hdz
    by_cases hne : z = dd
    · rw [decide_eq_true hne, Bool.not_true, if_neg (by decide), pmul_left (by rw [pow64]; omega), bind_ok, bind_ok, pmod_pos (by omega), bind_ok, bind_ok]
      by_cases hz0 : (f1 - z * f3) % p = 0
      · rw [decide_eq_true hz0, if_pos rfl]
        obtain ⟨n, hn⟩ := Int.eq_ofNat_of_zero_le (show 0 ≤ p by omega)
        have inner : Tot (M.bind (prangeI p) fun xs => loopF (fun (s29 : Unit) a30 => (M.bind (M.bind (M.bind (M.bind (M.bind (M.bind (pmul a30 (f3 - a30)) fun u31 => ok (u31 + z)) fun u32 => ok (u32 + dd)) fun u33 => ok (u33 - f2)) fun u34 => (pmod u34 p)) fun u35 => ok (decide (u35 = 0))) fun z36 => if z36 = true then (M.bind (M.bind (M.bind (M.bind (pmod (f3 - a30) p) fun u37 => psz [dd, u37, 1]) fun u38 => psz [[z, a30, 1], u38]) fun u39 => ok (some u39)) fun a40 => ok (Fl.rt (C := Unit) a40)) else ok (Fl.nx ()))) () xs)
            fun r => (r = Fl.nx () ∧ ∀ a ∈ rangeL 0 p.toNat, ∀ d c, ¬ PairEq p f0 f1 f2 f3 z a d c) ∨ ∃ o, r = Fl.rt o ∧ ∃ b a d c, o = some [[b, a, 1], [d, c, 1]] ∧ 1 ≤ b ∧ b < p ∧ 0 ≤ a ∧ a < p ∧ 0 ≤ d ∧ d < p ∧ 0 ≤ c ∧ c < p ∧ PairEq p f0 f1 f2 f3 b a d c := by
          refine .bind (.prangeI (by omega) (by omega)) fun ys hys => ?_
          subst hys
          refine Tot.loopFall _ _ fun w hw => ?_
          have hw' := mem_rangeL hw
          have hw1 : 0 ≤ w ∧ w < p := by omega
          try dsimp only
          rw [pmul_left (by rw [pow64]; omega), bind_ok, bind_ok, bind_ok, bind_ok, pmod_pos (by omega), bind_ok, bind_ok]
          by_cases hc : (w * (f3 - w) + z + dd - f2) % p = 0
          · rw [decide_eq_true hc, if_pos rfl, pmod_pos (by omega), bind_ok, psz_ok (fin3 _ _ _), bind_ok, psz_ok (fin2 _ _), bind_ok, bind_ok]
            refine .ok (.inr ⟨_, rfl, z, w, dd, (f3 - w) % p, rfl, hz1.1, hz1.2, hw1.1, hw1.2, hd0, hd1, Int.emod_nonneg _ (by omega), Int.emod_lt_of_pos _ (by omega), ?_⟩)
            rw [hpz, zq_sub, zq_add, zq_add, zq_mul, zq_sub] at hc
            rw [hpz, zq_sub, zq_mul] at hz0
            refine ⟨?_, ?_, ?_, ?_⟩ <;> rw [zq_iff] <;> simp only [zq_add, zq_mul, zq_mod, zq_sub]
            · grind
            · rw [← hne]; grind
            · grind
            · grind
          · rw [decide_eq_false hc, if_neg (by decide)]
            refine .ok (.inl ⟨rfl, fun d c ⟨e0, e1, e2, e3⟩ => hc ?_⟩)
            rw [zq_iff, zq_mul] at e0
            rw [zq_iff, zq_add, zq_mul, zq_mul] at e1
            rw [zq_iff, zq_add, zq_add, zq_mul] at e2
            rw [zq_iff, zq_add] at e3
            rw [hpz, zq_sub, zq_add, zq_add, zq_mul, zq_sub]
            have hdd : zq p dd = zq p d := by grind
            grind
        obtain ⟨r, er, hr⟩ := inner
        unfold sq
        rw [er, bind_ok]
        rcases hr with ⟨rfl, no⟩ | ⟨o, rfl, ho⟩
        · refine .ok (.inl ⟨rfl, fun a d c he => no (a % p) (mem_range_of (Int.emod_nonneg _ (by omega)) (by have := Int.emod_lt_of_pos a (show 0 < p by omega); omega)) d c ?_⟩)
          obtain ⟨e0, e1, e2, e3⟩ := he
          refine ⟨e0, ?_, ?_, ?_⟩ <;> rw [zq_iff] at * <;> simp only [zq_add, zq_mul, zq_mod] at * <;> assumption
        · exact .ok (.inr ⟨o, rfl, ho⟩)
      · rw [decide_eq_false hz0, if_neg (by decide)]
        refine .ok (.inl ⟨rfl, fun a d c ⟨e0, e1, e2, e3⟩ => hz0 ?_⟩)
        rw [zq_iff, zq_mul] at e0
        rw [zq_iff, zq_add, zq_mul, zq_mul] at e1
        rw [zq_iff, zq_add] at e3
        rw [hpz, zq_sub, zq_mul]
        have hdd : zq p dd = zq p d := by grind
        have : zq p z = zq p d := by rw [hne, hdd]
        grind
    · rw [decide_eq_false hne, Bool.not_false, if_pos rfl, pmul_left (by rw [pow64]; omega), bind_ok, bind_ok]
      have hvz : (dd - z) % p ≠ 0 := by
        intro k
        have : Cg p dd z := by
          rw [hpz, zq_sub] at k
          rw [zq_iff]
          grind
        exact hne (this.small hd0 hd1 (by omega) hz1.2).symm
      obtain ⟨t', et', t0', t1', tz'⟩ := tn (dd - z) hvz
      rw [zq_sub] at tz'
      rw [et', bind_ok, pmul_right (by rw [pow64]; omega), bind_ok, pmod_pos (by omega), bind_ok]
      have ha0 := Int.emod_nonneg ((f1 - z * f3) * t') (show p ≠ 0 by omega)
      have ha1 := Int.emod_lt_of_pos ((f1 - z * f3) * t') (show 0 < p by omega)
      have haz : zq p ((f1 - z * f3) * t' % p) = (zq p f1 - zq p z * zq p f3) * zq p t' := by rw [zq_mod, zq_mul, zq_sub, zq_mul]
      generalize (f1 - z * f3) * t' % p = a at ha0 ha1 haz
      rw [pmul_left (by rw [pow64]; omega), bind_ok, bind_ok, bind_ok, bind_ok, pmod_pos (by omega), bind_ok, bind_ok]
      by_cases hc : (a * (f3 - a) + z + dd - f2) % p = 0
      · rw [decide_eq_true hc, if_pos rfl, pmod_pos (by omega), bind_ok, psz_ok (fin3 _ _ _), bind_ok, psz_ok (fin2 _ _), bind_ok, bind_ok]
        refine .ok (.inr ⟨_, rfl, z, a, dd, (f3 - a) % p, rfl, hz1.1, hz1.2, ha0, ha1, hd0, hd1, Int.emod_nonneg _ (by omega), Int.emod_lt_of_pos _ (by omega), ?_⟩)
        rw [hpz, zq_sub, zq_add, zq_add, zq_mul, zq_sub] at hc
        refine ⟨?_, ?_, ?_, ?_⟩ <;> rw [zq_iff] <;> simp only [zq_add, zq_mul, zq_mod, zq_sub]
        · grind
        · grind
        · grind
        · grind
      · rw [decide_eq_false hc, if_neg (by decide)]
        refine .ok (.inl ⟨rfl, fun a' d c ⟨e0, e1, e2, e3⟩ => hc ?_⟩)
        rw [zq_iff, zq_mul] at e0
        rw [zq_iff, zq_add, zq_mul, zq_mul] at e1
        rw [zq_iff, zq_add, zq_add, zq_mul] at e2
        rw [zq_iff, zq_add] at e3
        rw [hpz, zq_sub, zq_add, zq_add, zq_mul, zq_sub]
        have hdd : zq p dd = zq p d := by grind
        have haa : zq p a = zq p a' := by grind
        grind
  obtain ⟨r, er, hr⟩ := main
  dsimp only
  rw [sq_of er]
  rcases hr with ⟨rfl, no⟩ | ⟨o, rfl, ho⟩
  · show Tot (ok none) _
    exact .ok (.inl ⟨rfl, fun b b1 b2 => no b (mem_range_of b1 (by omega))⟩)
  · show Tot (ok o) _
    exact .ok (.inr ho)
end T
set_option maxRecDepth 100000
set_option maxHeartbeats 4000000
namespace T
open PySem PySem.Spec PyProof.Rows L2
/-! ### monic rows modulo p -/
structure Mp (p : Int) (f : List Int) : Prop where
  red : Red p f
  pos : 0 < f.length
  last : co f (f.length - 1) = 1
theorem Mp.cut {p : Int} {f : List Int} (h : Mp p f) : Cut f := by
  have hp := h.pos
  have hl := h.last
  refine .inr ⟨f.getLast (by intro z; subst z; simp at hp), f.dropLast, (List.dropLast_concat_getLast _).symm, ?_⟩
  rw [List.getLast_eq_getElem]
  rw [co_get (by omega)] at hl
  rw [hl]; decide
theorem Mp.mon {p : Int} {f : List Int} (h : Mp p f) {n : Nat} (hn : f.length = n + 1) : (PZ.of f).Mon n :=
  ⟨fun t ht => co_out (by omega), by have := h.last; rw [hn] at this; exact this⟩
theorem mp_of {p : Int} {Q : List Int} {q : PZ} {k : Nat} (hp : 1 < p) (hc : Cut Q) (hr : Red p Q) (hq : q.Mon k) (e : Eqp p (PZ.of Q) q) : Mp p Q ∧ Q.length = k + 1 := by
  obtain ⟨c, e⟩ := e
  have hco : ∀ t, co Q t = q.co t + p * c.co t := fun t => by
    have := congrArg (fun x => PZ.co x t) e
    simp only [PZ.co_add, PZ.co_int_mul] at this
    exact this
  have hz : ∀ t, k < t → co Q t = 0 := fun t ht => by
    have := hco t
    rw [hq.bd t (by omega)] at this
    have c1 : Cg p (co Q t) 0 := ⟨c.co t, by omega⟩
    exact c1.small (hr t).1 (hr t).2 (by omega) (by omega)
  have h1 : co Q k = 1 := by
    have := hco k
    rw [hq.top] at this
    have c1 : Cg p (co Q k) 1 := ⟨c.co k, by omega⟩
    exact c1.small (hr k).1 (hr k).2 (by omega) (by omega)
  have hlen : Q.length = k + 1 := by
    have hk : k < Q.length := by
      apply Classical.byContradiction
      intro z
      rw [co_out (by omega)] at h1
      omega
    have hne : Q ≠ [] := by intro z; subst z; simp at hk
    apply Classical.byContradiction
    intro z
    exact hc.last hne (hz _ (by omega))
  exact ⟨⟨hr, by omega, by rw [hlen]; exact h1⟩, hlen⟩
def NoRoot (p : Int) (f : List Int) : Prop := ∀ r : Int, ¬ Cg p (ev f r) 0
section
variable {p : Int}
theorem eqp_ev {f g : List Int} (h : Eqp p (PZ.of f) (PZ.of g)) (r : Int) : Cg p (ev f r) (ev g r) := ev_cg r (Eqp.cg.mp h)
theorem lin_mon (a : Int) : (PZ.of [a, 1]).Mon 1 := ⟨fun t ht => co_out ht, rfl⟩
/-- one linear factor is parted off -/
theorem part_root_ok {f : List Int} {low : Int} (h : p ∈ primesL) (hl : 0 ≤ low) (hl2 : low < p) (hf : Mp p f) (h1 : 1 < f.length) (h5 : f.length ≤ 1000) (hr : Cg p (ev f (-low)) 0) :
    Tot (m_mod_parted f [low, 1] p) fun r => Mp p r.1 ∧ r.1.length + 1 = f.length ∧ Eqp p (PZ.of f) (PZ.of [low, 1] * PZ.of r.1) := by
  obtain ⟨p1, p2⟩ := pr_bd h
  have hG : modP p [low, 1] = [low, 1] := by
    refine modP_eq (by omega) (.inr ⟨1, [low], rfl, by decide⟩) (Red.of (by omega) fun x hx => ?_) (CgP.refl _ _)
    simp only [List.mem_cons, List.not_mem_nil, or_false] at hx
    rcases hx with rfl | rfl <;> omega
  have hc1 : co [low, 1] 1 = 1 := rfl
  obtain ⟨Q, R, e, cQ, cR, rQ, rR, lR, lQ, eq⟩ := mod_parted_ok (f := f) (g := [low, 1]) (G := [low, 1]) (d := 1) p1 (by omega) hG rfl (by
    rw [hc1, Int.emod_eq_of_lt (by decide) p1]
    exact fun d h1 _ => h1) (by omega) (by show 2 ≤ 100000; decide)
  refine ⟨(Q, R), e, ?_⟩
  have ez : ev [low, 1] (-low) = 0 := by show low + -low * (1 + -low * 0) = 0; grind
  have hR : ∀ t, Cg p (co R t) 0 := fun t => by
    cases t with
    | succ t => exact .of_eq (co_out (by omega))
    | zero =>
      have := (ev_cg (-low) eq).symm.trans hr
      rw [addP_ev, mulP_ev, ez, Int.mul_zero, Int.zero_add] at this
      match R, lR with
      | [], _ => exact .refl _ _
      | [c], _ => rwa [show ev [c] (-low) = c by show c + -low * 0 = c; omega] at this
  have eq2 : Eqp p (PZ.of f) (PZ.of Q * PZ.of [low, 1]) := by
    have e1 := Eqp.cg.mpr eq
    have e2 : Eqp p (PZ.of R) 0 := Eqp.iff.mpr fun t => by
      obtain ⟨k, hk⟩ := hR t
      rw [PZ.co_sub, PZ.co_of, PZ.co_zero]
      exact ⟨k, by omega⟩
    refine e1.trans ?_
    rw [PZ.of_add, PZ.of_mul]
    have := (Eqp.refl p (PZ.of Q * PZ.of [low, 1])).add e2
    rwa [show PZ.of Q * PZ.of [low, 1] + 0 = PZ.of Q * PZ.of [low, 1] by grind] at this
  obtain ⟨q, hq, e3⟩ := cofac (lin_mon low) (hf.mon (n := f.length - 1) (by omega)) (by omega) ((Dvm.right (p := p) (a := PZ.of Q) (g := PZ.of [low, 1])).congr eq2.symm)
  have e4 : Eqp p (PZ.of Q) q := by
    rw [Eqp.iff]
    have hd : ((PZ.of Q - q) * PZ.of [low, 1]).Dvp p := by
      have := Eqp.iff.mp (eq2.symm.trans e3)
      rwa [show PZ.of Q * PZ.of [low, 1] - q * PZ.of [low, 1] = (PZ.of Q - q) * PZ.of [low, 1] by grind] at this
    rcases PZ.dvp_mul (invP_of h).pr hd with z | z
    · exact z
    · have := z 1
      rw [(lin_mon low).top] at this
      have := Int.le_of_dvd (by decide) this
      omega
  obtain ⟨m1, m2⟩ := mp_of p1 cQ rQ hq e4
  refine ⟨m1, by show Q.length + 1 = _; omega, ?_⟩
  rw [show PZ.of [low, 1] * PZ.of (Q, R).1 = PZ.of Q * PZ.of [low, 1] by show PZ.of [low, 1] * PZ.of Q = _; grind]
  exact eq2
theorem noRoot_dv {f g : List Int} {h : PZ} (hf : NoRoot p f) (e : Eqp p (PZ.of f) (h * PZ.of g)) : NoRoot p g := fun r hr => by
  obtain ⟨l, rfl⟩ := PZ.rep h
  have := eqp_ev (f := f) (g := mulP l g) e r
  rw [mulP_ev] at this
  refine hf r (this.trans ?_)
  have := (Cg.refl p (ev l r)).mul hr
  rwa [Int.mul_zero] at this
/-- without roots, and in degree four without a pair of quadratics -/
theorem irp_of {g : List Int} {m : Nat} (h : p ∈ primesL) (hm : (PZ.of g).Mon m) (h2 : 2 ≤ m) (h4 : m ≤ 4) (hn : NoRoot p g) (hq : m = 4 → ∀ d q : PZ, d.Mon 2 → q.Mon 2 → ¬ Eqp p (PZ.of g) (q * d)) : Irp p (PZ.of g) m := by
  have p1 := (pr_bd h).1
  have lin : ∀ d : PZ, d.Mon 1 → ¬ Dvm p d (PZ.of g) := fun d hd hdv => by
    rw [mon1_row hd, show d.co 0 = - -d.co 0 by omega] at hdv
    exact hn _ ((root_dvm p1).mp hdv)
  refine ⟨hm, by omega, fun k d k1 k2 hd hdv => ?_⟩
  by_cases e1 : k = 1
  · subst e1; exact lin d hd hdv
  obtain ⟨q, mq, e⟩ := cofac hd hm (by omega) hdv
  by_cases e2 : m - k = 1
  · rw [e2] at mq
    exact lin q mq (Dvm.congr e.symm Dvm.left)
  · have hk : k = 2 := by omega
    have hm4 : m = 4 := by omega
    subst hk; subst hm4
    exact hq rfl d q hd mq e
/-- a factor as it is told -/
structure Pt (p : Int) (g : List Int) : Prop where
  mp : Mp p g
  le : g.length ≤ 5
  irr : Irp p (PZ.of g) (g.length - 1)
theorem Pt.len {g : List Int} (h : Pt p g) : 2 ≤ g.length := by have := h.irr.pos; omega
def prodP : List (List Int × Int) → PZ
  | [] => 1
  | x :: l => PZ.of x.1 ^ x.2.toNat * prodP l
theorem prodP_app : ∀ (l m : List (List Int × Int)), prodP (l ++ m) = prodP l * prodP m
  | [], m => by show prodP m = 1 * prodP m; grind
  | x :: l, m => by
    show PZ.of x.1 ^ x.2.toNat * prodP (l ++ m) = PZ.of x.1 ^ x.2.toNat * prodP l * prodP m
    rw [prodP_app l m]
    grind
/-- what stands behind the linear factors -/
def Rest (rest : List (List Int × Int)) : Prop := rest = [] ∨ (∃ g e, rest = [(g, e)] ∧ 3 ≤ g.length ∧ 1 ≤ e) ∨ ∃ g k, rest = [(g, 1), (k, 1)] ∧ g.length = 3 ∧ k.length = 3 ∧ g ≠ k ∧ TS.code 1000 g ≤ TS.code 1000 k
theorem rootless_ok {f : List Int} (h : p ∈ primesL) (hf : Mp p f) (h3 : 3 ≤ f.length) (h5 : f.length ≤ 5) (hn : NoRoot p f) :
    Tot (m_rootless f p) fun l => (∀ x ∈ l, Pt p x.1 ∧ 1 ≤ x.2) ∧ Eqp p (PZ.of f) (prodP l) ∧ Rest l := by
  obtain ⟨p1, p2⟩ := pr_bd h
  have whole : (∀ d q : PZ, f.length = 5 → d.Mon 2 → q.Mon 2 → ¬ Eqp p (PZ.of f) (q * d)) → (∀ x ∈ [(f, (1 : Int))], Pt p x.1 ∧ 1 ≤ x.2) ∧ Eqp p (PZ.of f) (prodP [(f, 1)]) ∧ Rest [(f, 1)] := fun hq => by
    refine ⟨fun x hx => ?_, ?_, .inr (.inl ⟨f, 1, rfl, h3, by decide⟩)⟩
    · rw [List.mem_singleton.mp hx]
      show Pt p f ∧ (1 : Int) ≤ 1
      exact ⟨⟨hf, h5, irp_of h (hf.mon (by omega)) (by omega) (by omega) hn fun e d q hd hqm => hq d q (by omega) hd hqm⟩, by decide⟩
    · show Eqp p _ (PZ.of f ^ 1 * 1)
      rw [show PZ.of f ^ 1 * 1 = PZ.of f by grind]
      exact .refl _ _
  unfold m_rootless
  rw [bind_ok, bind_ok]
  by_cases hl : f.length = 5
  · rw [decide_eq_true (show (f.length : Int) = 5 by omega), if_pos rfl, bind_ret]
    match f, hl, hf, hn with
    | [f0, f1, f2, f3, f4], _, hf, hn =>
    have e4 : f4 = 1 := hf.last
    subst e4
    refine .bind (pair_of_ok h hf.red) fun o ho => ?_
    rcases ho with ⟨rfl, no⟩ | ⟨b, a, d, c, rfl, b1, b2, a1, a2, d1, d2, c1, c2, he⟩
    · rw [bind_ok, if_pos (show (none : Option (List (List Int))).isNone = true from rfl)]
      refine .ok (whole fun d q _ hd hq e => ?_)
      rw [mon2_row hd, mon2_row hq] at e
      have he : PairEq p f0 f1 f2 f3 (q.co 0) (q.co 1) (d.co 0) (d.co 1) := pair_mul.mpr (Eqp.cg.mp e)
      have hb0 : q.co 0 % p ≠ 0 := fun z => by
        refine hn 0 ?_
        have hz : Cg p (q.co 0) 0 := Cg.iff.mpr (by rw [z, Int.zero_emod])
        have := he.1.trans (hz.mul (Cg.refl p (d.co 0)))
        rw [Int.zero_mul] at this
        rwa [show ev [f0, f1, f2, f3, 1] 0 = f0 by show f0 + 0 * _ = f0; omega]
      have hb1 := Int.emod_nonneg (q.co 0) (show p ≠ 0 by omega)
      have hb2 := Int.emod_lt_of_pos (q.co 0) (show 0 < p by omega)
      obtain ⟨e0, e1, e2, e3⟩ := he
      refine no (q.co 0 % p) (by omega) hb2 (q.co 1) (d.co 0) (d.co 1) ⟨?_, ?_, ?_, e3⟩ <;> rw [zq_iff] at * <;> simp only [zq_add, zq_mul, zq_mod] at * <;> assumption
    · have r1 : Red p [b, a, 1] := Red.of (by omega) fun x hx => by
        simp only [List.mem_cons, List.not_mem_nil, or_false] at hx
        rcases hx with rfl | rfl | rfl <;> omega
      have r2 : Red p [d, c, 1] := Red.of (by omega) fun x hx => by
        simp only [List.mem_cons, List.not_mem_nil, or_false] at hx
        rcases hx with rfl | rfl | rfl <;> omega
      have m1 : Mp p [b, a, 1] := ⟨r1, by simp, rfl⟩
      have m2 : Mp p [d, c, 1] := ⟨r2, by simp, rfl⟩
      have ee : Eqp p (PZ.of [f0, f1, f2, f3, 1]) (PZ.of [b, a, 1] * PZ.of [d, c, 1]) := Eqp.cg.mpr (pair_mul.mp he)
      have n1 : NoRoot p [b, a, 1] := noRoot_dv hn (h := PZ.of [d, c, 1]) (by rw [show PZ.of [d, c, 1] * PZ.of [b, a, 1] = PZ.of [b, a, 1] * PZ.of [d, c, 1] by grind]; exact ee)
      have n2 : NoRoot p [d, c, 1] := noRoot_dv hn ee
      have t1 : Pt p [b, a, 1] := ⟨m1, by simp, T.irp_of h (m1.mon (n := 2) rfl) (by simp) (by simp) n1 fun z => by simp at z⟩
      have t2 : Pt p [d, c, 1] := ⟨m2, by simp, T.irp_of h (m2.mon (n := 2) rfl) (by simp) (by simp) n2 fun z => by simp at z⟩
      rw [bind_ok, if_neg (show ¬ (some [[b, a, 1], [d, c, 1]]).isNone = true from fun z => nomatch z), unO_some, bind_ok, bind_ok, pg0, bind_ok, pg1, bind_ok, bind_ok]
      by_cases heq : ([b, a, 1] : List Int) = [d, c, 1]
      · rw [decide_eq_true heq, if_pos rfl, bind_ok, bind_ok, psz_ok (by simp)]
        refine .ok ⟨fun x hx => ?_, ?_, .inr (.inl ⟨_, _, rfl, by simp, by decide⟩)⟩
        · rw [List.mem_singleton.mp hx]; exact ⟨t1, by show (1 : Int) ≤ 2; decide⟩
        · show Eqp p _ (PZ.of [b, a, 1] ^ 2 * 1)
          rw [show PZ.of [b, a, 1] ^ 2 * 1 = PZ.of [b, a, 1] * PZ.of [b, a, 1] by grind]
          rw [← heq] at ee
          exact ee
      · rw [decide_eq_false heq, if_neg (by decide)]
        have hso := sortOk_pair (x := [b, a, 1]) (y := [d, c, 1]) p2 rfl rfl ⟨by simp, by simp, r1.mem⟩ ⟨by simp, by simp, r2.mem⟩
        have hp := sortT_perm [[b, a, 1], [d, c, 1]]
        have hpw : (sortT [[b, a, 1], [d, c, 1]]).Pairwise fun x y => decide (TS.code 1000 x ≤ TS.code 1000 y) = true :=
          List.pairwise_mergeSort (fun x y z h1 h2 => by simp at *; omega) (fun x y => by simp; omega) _
        unfold psortT
        rw [bind_ok, grd_pos hso, bind_ok]
        generalize sortT [[b, a, 1], [d, c, 1]] = S at hp hpw
        have hS : S = [[b, a, 1], [d, c, 1]] ∨ S = [[d, c, 1], [b, a, 1]] := by
          match S, hp.length_eq, hp with
          | [u, v], _, hp =>
            have hu : u ∈ [[b, a, 1], [d, c, 1]] := hp.mem_iff.mp (by simp)
            simp only [List.mem_cons, List.not_mem_nil, or_false] at hu
            rcases hu with rfl | rfl
            · left
              have := List.perm_singleton.mp (List.Perm.cons_inv hp)
              simpa using this
            · right
              have h2 := hp.trans (List.Perm.swap _ _ [])
              have := List.Perm.cons_inv h2
              have := List.perm_singleton.mp this
              simpa using this
        rw [mapC_ok (g := fun g17 : List Int => (g17, (1 : Int))) (fun _ _ => rfl) (by rw [sizeLineE]; rcases hS with rfl | rfl <;> simp)]
        rcases hS with rfl | rfl
        · refine .ok ⟨fun x hx => ?_, ?_, .inr (.inr ⟨_, _, rfl, rfl, rfl, heq, by simpa using hpw⟩)⟩
          · simp only [List.map_cons, List.map_nil, List.mem_cons, List.not_mem_nil, or_false] at hx
            rcases hx with rfl | rfl
            · exact ⟨t1, by show (1 : Int) ≤ 1; decide⟩
            · exact ⟨t2, by show (1 : Int) ≤ 1; decide⟩
          · show Eqp p _ (PZ.of [b, a, 1] ^ 1 * (PZ.of [d, c, 1] ^ 1 * 1))
            rw [show PZ.of [b, a, 1] ^ 1 * (PZ.of [d, c, 1] ^ 1 * 1) = PZ.of [b, a, 1] * PZ.of [d, c, 1] by grind]
            exact ee
        · refine .ok ⟨fun x hx => ?_, ?_, .inr (.inr ⟨_, _, rfl, rfl, rfl, fun z => heq z.symm, by simpa using hpw⟩)⟩
          · simp only [List.map_cons, List.map_nil, List.mem_cons, List.not_mem_nil, or_false] at hx
            rcases hx with rfl | rfl
            · exact ⟨t2, by show (1 : Int) ≤ 1; decide⟩
            · exact ⟨t1, by show (1 : Int) ≤ 1; decide⟩
          · show Eqp p _ (PZ.of [d, c, 1] ^ 1 * (PZ.of [b, a, 1] ^ 1 * 1))
            rw [show PZ.of [d, c, 1] ^ 1 * (PZ.of [b, a, 1] ^ 1 * 1) = PZ.of [b, a, 1] * PZ.of [d, c, 1] by grind]
            exact ee
  · rw [decide_eq_false (show ¬ (f.length : Int) = 5 by omega), if_neg (by decide), bind_ok, bind_ok, if_pos (show (none : Option (List (List Int))).isNone = true from rfl)]
    exact .ok (whole fun d q z => absurd z hl)
end
end T
set_option maxRecDepth 100000
set_option maxHeartbeats 4000000
namespace T
open PySem PySem.Spec PyProof.Rows L2
section
variable {p : Int}
theorem ev_arg {x y : Int} (h : Cg p x y) : ∀ f : List Int, Cg p (ev f x) (ev f y)
  | [] => .refl _ _
  | a :: f => (Cg.refl p a).add (h.mul (ev_arg h f))
/-- the linear factors of a split -/
structure Lins (i : Int) (l : List (List Int × Int)) : Prop where
  mem : ∀ x ∈ l, ∃ low e, x = ([low, 1], e) ∧ 0 ≤ low ∧ low < i ∧ 1 ≤ e
  up : l.Pairwise fun a b => co a.1 0 < co b.1 0
theorem Lins.nil : Lins 0 [] := ⟨(fun x h => nomatch h), List.Pairwise.nil⟩
theorem Lins.mono {i j : Int} {l : List (List Int × Int)} (h : Lins i l) (hij : i ≤ j) : Lins j l := ⟨fun x hx => by
  obtain ⟨low, e, h1, h2, h3, h4⟩ := h.mem x hx
  exact ⟨low, e, h1, h2, by omega, h4⟩, h.up⟩
theorem Lins.snoc {i e : Int} {l : List (List Int × Int)} (h : Lins i l) (hi : 0 ≤ i) (he : 1 ≤ e) : Lins (i + 1) (l ++ [([i, 1], e)]) := ⟨fun x hx => by
  rcases List.mem_append.mp hx with z | z
  · exact (h.mono (by omega)).mem x z
  · exact ⟨i, e, List.mem_singleton.mp z, hi, by omega, he⟩, by
  rw [List.pairwise_append]
  refine ⟨h.up, List.pairwise_singleton _ _, fun a ha b hb => ?_⟩
  obtain ⟨low, e', rfl, h2, h3, h4⟩ := h.mem a ha
  rw [List.mem_singleton.mp hb]
  exact h3⟩
/-- the split of a monic polynomial modulo p -/
structure Split (p : Int) (f : List Int) (l : List (List Int × Int)) : Prop where
  pts : ∀ x ∈ l, Pt p x.1 ∧ 1 ≤ x.2
  mul : Eqp p (PZ.of f) (prodP l)
  ord : ∃ lins rest, l = lins ++ rest ∧ Lins p lins ∧ Rest rest
theorem red_lin {low : Int} (h0 : 0 ≤ low) (h1 : low < p) (p1 : 1 < p) : Red p [low, 1] := Red.of (by omega) fun x hx => by
  simp only [List.mem_cons, List.not_mem_nil, or_false] at hx
  rcases hx with rfl | rfl <;> omega
theorem pt_lin {low : Int} (h0 : 0 ≤ low) (h1 : low < p) (p1 : 1 < p) : Pt p [low, 1] := ⟨⟨red_lin h0 h1 p1, by simp, rfl⟩, by simp, irp_lin low⟩
theorem split_by_ok {f : List Int} {d : Nat} (h : p ∈ primesL) (hl : f.length = d + 1) (h1 : co f d = 1) (hd1 : 1 ≤ d) (hd4 : d ≤ 4) : Tot (m_split_by f p) (Split p f) := by
  obtain ⟨p1, p2⟩ := pr_bd h
  have hmon : (PZ.of f).Mon d := ⟨fun t ht => co_out (by omega), h1⟩
  obtain ⟨m0, l0⟩ := mp_of p1 (modP_cut p f) (modP_red (by omega) f) hmon (Eqp.cg.mpr (modP_cg p f))
  have e0 : Eqp p (PZ.of f) (PZ.of (modP p f)) := (Eqp.cg.mpr (modP_cg p f)).symm
  unfold m_split_by
  rw [mem_primes h, bind_ok, if_neg (by decide), mod_poly_ok (by omega) (by omega), bind_ok, bind_ok]
  generalize modP p f = left0 at m0 l0 e0
  refine .bind (P := fun s : List Int × List (List Int × Int) => Mp p s.1 ∧ s.1.length ≤ 5 ∧ Eqp p (PZ.of f) (prodP s.2 * PZ.of s.1) ∧ Lins p s.2 ∧ NoRoot p s.1 ∧ s.2.length ≤ 300) ?_ fun s hs => ?_
  · refine .bind (.prangeI (by omega) (by omega)) fun xs hxs => ?_
    subst hxs
    refine (Tot.loopMi (fun i (s : List Int × List (List Int × Int)) => Mp p s.1 ∧ s.1.length ≤ 5 ∧ Eqp p (PZ.of f) (prodP s.2 * PZ.of s.1) ∧ Lins (i : Int) s.2 ∧ (∀ low : Int, 0 ≤ low → low < i → ¬ Cg p (ev s.1 (-low)) 0) ∧ s.2.length ≤ i) (c := (left0, ([] : List (List Int × Int)))) ⟨m0, by show left0.length ≤ 5; omega, by
        show Eqp p _ (1 * PZ.of left0)
        rw [show 1 * PZ.of left0 = PZ.of left0 by grind]
        exact e0, Lins.nil, fun low a b => by omega, Nat.le_refl _⟩ fun i s low hlow hs => ?_).mono fun s hs => ?_
    · obtain ⟨rfl, hi⟩ := range_get hlow
      obtain ⟨c1, c2, c3, c4, c5, c6⟩ := hs
      obtain ⟨left, parts⟩ := s
      dsimp only at c1 c2 c3 c4 c5 c6 ⊢
      rw [bind_ok]
      refine .bind (Tot.whileM (fun s : List Int × Int => Mp p s.1 ∧ s.1.length ≤ 5 ∧ ∃ k : Nat, s.2 = k ∧ Eqp p (PZ.of left) (PZ.of [(i : Int), 1] ^ k * PZ.of s.1)) (fun s => s.1.length) (c := (left, (0 : Int))) ⟨c1, c2, 0, rfl, by
          show Eqp p _ (PZ.of [(i : Int), 1] ^ 0 * PZ.of left)
          rw [show PZ.of [(i : Int), 1] ^ 0 * PZ.of left = PZ.of left by grind]
          exact .refl _ _⟩ fun c hc => ?_) fun c hc => ?_
      · obtain ⟨lc, oc⟩ := c
        obtain ⟨d1, d2, k, d3, d4⟩ := hc
        dsimp only at d1 d2 d3 d4 ⊢
        rw [bind_ok]
        by_cases hl1 : 1 < lc.length
        · rw [if_pos (decide_eq_true (show (1 : Int) < (lc.length : Int) by omega)), mod_at_ok (by omega) (by omega), bind_ok]
          refine .ok fun hz => ?_
          have hz := of_decide_eq_true hz
          have hr : Cg p (ev lc (-(i : Int))) 0 := Cg.iff.mpr (by rw [hz, Int.zero_emod])
          simp only [bind_bind, bind_okS]
          refine .bind (part_root_ok h (by omega) (by omega) d1 hl1 (by omega) hr) fun r hr => ?_
          obtain ⟨r1, r2, r3⟩ := hr
          refine .ok ⟨⟨r1, by dsimp only; omega, k + 1, by dsimp only; omega, ?_⟩, by dsimp only; omega⟩
          refine d4.trans ?_
          have := (Eqp.refl p (PZ.of [(i : Int), 1] ^ k)).mul r3
          rw [Lean.Grind.Semiring.pow_succ]
          rwa [show PZ.of [(i : Int), 1] ^ k * PZ.of [(i : Int), 1] * PZ.of r.1 = PZ.of [(i : Int), 1] ^ k * (PZ.of [(i : Int), 1] * PZ.of r.1) by grind]
        · rw [decide_eq_false (show ¬ (1 : Int) < (lc.length : Int) by omega), if_neg (by decide)]
          exact .ok fun z => nomatch z
      · obtain ⟨lc, oc⟩ := c
        obtain ⟨⟨d1, d2, k, d3, d4⟩, hexit⟩ := hc
        dsimp only at d1 d2 d3 d4 hexit ⊢
        -- no root left at i
        have hni : ¬ Cg p (ev lc (-(i : Int))) 0 := fun hr => by
          rw [bind_ok] at hexit
          by_cases hl1 : 1 < lc.length
          · rw [if_pos (decide_eq_true (show (1 : Int) < (lc.length : Int) by omega)), mod_at_ok (by omega) (by omega), bind_ok] at hexit
            have hz := Cg.iff.mp hr
            rw [Int.zero_emod] at hz
            rw [hz] at hexit
            cases hexit
          · have hlen : lc.length = 1 := by have := d1.pos; omega
            match lc, hlen with
            | [a], _ =>
              have ha : a = 1 := d1.last
              subst ha
              have h2 : ev [1] (-(i : Int)) = 1 := by show 1 + -(i : Int) * 0 = 1; omega
              rw [h2] at hr
              have := hr.small (by omega) (by omega) (by omega) (by omega)
              omega
        have hnl : ∀ low : Int, 0 ≤ low → low < (i : Int) + 1 → ¬ Cg p (ev lc (-low)) 0 := fun low a b hr => by
          by_cases e : low = i
          · rw [e] at hr; exact hni hr
          · obtain ⟨g, hg⟩ := PZ.rep (PZ.of [(i : Int), 1] ^ k)
            rw [hg] at d4
            have := eqp_ev (f := left) (g := mulP g lc) d4 (-low)
            rw [mulP_ev] at this
            have h3 := (Cg.refl p (ev g (-low))).mul hr
            rw [Int.mul_zero] at h3
            exact c5 low a (by omega) (this.trans h3)
        rw [bind_ok]
        by_cases hk : (0 : Int) < oc
        · rw [decide_eq_true hk, if_pos rfl]
          refine .bind (.papp (by omega)) fun q hq => ?_
          rw [hq]
          refine .ok ⟨d1, d2, ?_, ?_, fun low a b => hnl low a (by omega), ?_⟩
          · dsimp only
            rw [prodP_app]
            show Eqp p _ (prodP parts * (PZ.of [(i : Int), 1] ^ oc.toNat * 1) * PZ.of lc)
            rw [d3, Int.toNat_natCast]
            refine c3.trans ?_
            have := (Eqp.refl p (prodP parts)).mul d4
            rwa [show prodP parts * (PZ.of [(i : Int), 1] ^ k * 1) * PZ.of lc = prodP parts * (PZ.of [(i : Int), 1] ^ k * PZ.of lc) by grind]
          · have := c4.snoc (e := oc) (by omega) (by omega)
            rwa [show ((i + 1 : Nat) : Int) = (i : Int) + 1 by omega]
          · dsimp only; rw [List.length_append]; simp only [List.length_cons, List.length_nil]; omega
        · rw [decide_eq_false hk, if_neg (by decide)]
          have hk0 : k = 0 := by omega
          subst hk0
          refine .ok ⟨d1, d2, ?_, c4.mono (by omega), fun low a b => hnl low a (by omega), by dsimp only; omega⟩
          refine c3.trans ?_
          have := (Eqp.refl p (prodP parts)).mul d4
          rwa [show prodP parts * (PZ.of [(i : Int), 1] ^ 0 * PZ.of lc) = prodP parts * PZ.of lc by grind] at this
    · obtain ⟨c1, c2, c3, c4, c5, c6⟩ := hs
      rw [rangeL_len] at c4 c5 c6
      have hpn : ((p.toNat : Nat) : Int) = p := by omega
      rw [hpn] at c4 c5
      refine ⟨c1, c2, c3, c4, fun r hr => ?_, by omega⟩
      refine c5 ((-r) % p) (Int.emod_nonneg _ (by omega)) (Int.emod_lt_of_pos _ (by omega)) (Cg.trans (ev_arg ?_ _) hr)
      have := (Cg.mod p (-r)).neg
      rwa [Int.neg_neg] at this
  · obtain ⟨c1, c2, c3, c4, c5, c6⟩ := hs
    obtain ⟨left, parts⟩ := s
    dsimp only at c1 c2 c3 c4 c5 c6 ⊢
    have pl : ∀ x ∈ parts, Pt p x.1 ∧ 1 ≤ x.2 := fun x hx => by
      obtain ⟨low, e, rfl, a, b, c⟩ := c4.mem x hx
      exact ⟨pt_lin a b p1, c⟩
    rw [bind_ret, bind_ok]
    by_cases hl1 : 1 < left.length
    · rw [decide_eq_true (show (1 : Int) < (left.length : Int) by omega), if_pos rfl, bind_ret]
      have h3 : 3 ≤ left.length := by
        apply Classical.byContradiction
        intro z
        have hlen : left.length = 2 := by omega
        match left, hlen with
        | [a, b], _ =>
          have hb : b = 1 := c1.last
          subst hb
          exact c5 (-a) (.of_eq (show a + -a * (1 + -a * 0) = 0 by grind))
      refine .bind (rootless_ok h c1 h3 c2 c5) fun l hl => ?_
      obtain ⟨q1, q2, q3⟩ := hl
      have hlen : l.length ≤ 2 := by rcases q3 with rfl | ⟨_, _, rfl, _⟩ | ⟨_, _, rfl, _⟩ <;> simp
      refine (Tot.pcat (by omega)).mono fun q hq => ?_
      rw [hq]
      refine ⟨fun x hx => ?_, ?_, parts, l, rfl, c4, q3⟩
      · rcases List.mem_append.mp hx with z | z
        · exact pl x z
        · exact q1 x z
      · rw [prodP_app]
        exact c3.trans ((Eqp.refl p _).mul q2)
    · rw [decide_eq_false (show ¬ (1 : Int) < (left.length : Int) by omega), if_neg (by decide)]
      have hlen : left.length = 1 := by have := c1.pos; omega
      match left, hlen, c1, c3 with
      | [a], _, c1, c3 =>
        have ha : a = 1 := c1.last
        subst ha
        refine .ok ⟨pl, ?_, parts, [], by simp, c4, .inl rfl⟩
        rw [PZ.of_one, show prodP parts * 1 = prodP parts by grind] at c3
        exact c3
end
end T
set_option maxRecDepth 100000
set_option maxHeartbeats 4000000
namespace T
open PySem PySem.Spec PyProof.Rows L2
/-! ### a ring that is whole at a prime (Dedekind) -/
/-- the rule: no double factor whose rest p p divides -/
structure WholeAt (F : NF) (p : Int) : Prop where
  pr : InvP p
  ex : ∃ l : List (PZ × Nat × Nat), (∀ x ∈ l, Irp p x.1 x.2.1 ∧ 1 ≤ x.2.2 ∧ (2 ≤ x.2.2 → ∃ q s : PZ, F.f = q * x.1 + s ∧ s.Bd x.2.1 ∧ ¬ s.Dvp (p * p))) ∧ l.Pairwise (fun x y => ¬ Dvm p x.1 y.1) ∧ Eqp p F.f (l.foldr (fun x b => x.1 ^ x.2.2 * b) 1)
section
variable {α : Type} [Lean.Grind.CommRing α]
theorem cr_mul_pow (a b : α) : ∀ m : Nat, (a * b) ^ m = a ^ m * b ^ m
  | 0 => by rw [Lean.Grind.Semiring.pow_zero, Lean.Grind.Semiring.pow_zero, Lean.Grind.Semiring.pow_zero]; grind
  | m + 1 => by
    rw [Lean.Grind.Semiring.pow_succ, Lean.Grind.Semiring.pow_succ, Lean.Grind.Semiring.pow_succ, cr_mul_pow a b m]
    grind
end
variable {F : NF} {p : Int}
/-- a row as a polynomial at a number -/
def hev : List Int → F.R → F.R
  | [], _ => 0
  | a :: O, x => (a : F.R) + x * hev O x
/-- places divided by the powers of p, from the top -/
def Fall (p : Int) : List Int → Prop
  | [] => False
  | [a] => a = 1
  | a :: b :: O => (∃ d : Int, a = p ^ (b :: O).length * d) ∧ Fall p (b :: O)
theorem fall_low : ∀ {O : List Int}, Fall p O → ∀ x : F.R, ∃ z : F.R, hev O x = x ^ (O.length - 1) + (p : F.R) * z
  | [], h, _ => h.elim
  | [a], h, x => ⟨0, by
    have h : a = 1 := h
    subst h
    show ((1 : Int) : F.R) + x * 0 = x ^ 0 + (p : F.R) * 0
    rw [Lean.Grind.Semiring.pow_zero]
    grind⟩
  | a :: b :: O, ⟨⟨d, hd⟩, h⟩, x => by
    obtain ⟨z, e⟩ := fall_low h x
    have e1 : (b :: O).length - 1 = O.length := rfl
    have e2 : (a :: b :: O).length - 1 = O.length + 1 := rfl
    rw [e1] at e
    rw [e2, Lean.Grind.Semiring.pow_succ]
    show ∃ z', (a : F.R) + x * hev (b :: O) x = x ^ O.length * x + (p : F.R) * z'
    rw [e, hd, List.length_cons, Int.pow_succ]
    refine ⟨((p ^ O.length * d : Int) : F.R) + x * z, ?_⟩
    have : ((p ^ O.length * p * d : Int) : F.R) = (p : F.R) * ((p ^ O.length * d : Int) : F.R) := by
      rw [show p ^ O.length * p * d = p * (p ^ O.length * d) by grind]
      grind
    rw [this]
    grind
/-- .. at a number whose r-fold is A y, where p r is - A g k -/
theorem fall_high {r x A y g k : F.R} (hx : r * x = A * y) (hp : (p : F.R) * r = -(A * g * k)) : ∀ {O : List Int}, Fall p O → ∃ z : F.R, r ^ (O.length - 1) * hev O x = A ^ (O.length - 1) * (y ^ (O.length - 1) + g * z)
  | [], h => h.elim
  | [a], h => ⟨0, by
    have h : a = 1 := h
    subst h
    show r ^ 0 * (((1 : Int) : F.R) + x * 0) = A ^ 0 * (y ^ 0 + g * 0)
    rw [Lean.Grind.Semiring.pow_zero, Lean.Grind.Semiring.pow_zero, Lean.Grind.Semiring.pow_zero]
    grind⟩
  | a :: b :: O, ⟨⟨d, hd⟩, h⟩ => by
    obtain ⟨z, e⟩ := fall_high hx hp h
    have e1 : (b :: O).length - 1 = O.length := rfl
    have e2 : (a :: b :: O).length - 1 = O.length + 1 := rfl
    rw [e1] at e
    rw [e2, Lean.Grind.Semiring.pow_succ, Lean.Grind.Semiring.pow_succ, Lean.Grind.Semiring.pow_succ]
    show ∃ z', r ^ O.length * r * ((a : F.R) + x * hev (b :: O) x) = A ^ O.length * A * (y ^ O.length * y + g * z')
    have ha : (a : F.R) = (p : F.R) ^ O.length * (p : F.R) * (d : F.R) := by
      rw [hd, List.length_cons]
      have pw : ∀ m : Nat, ((p ^ m : Int) : F.R) = (p : F.R) ^ m := by
        intro m
        induction m with
        | zero => rw [Int.pow_zero, Lean.Grind.Semiring.pow_zero]; rfl
        | succ m ih => rw [Int.pow_succ, Lean.Grind.Semiring.pow_succ, ← ih]; grind
      have : ((p ^ (O.length + 1) * d : Int) : F.R) = ((p ^ (O.length + 1) : Int) : F.R) * (d : F.R) := by grind
      rw [this, pw, Lean.Grind.Semiring.pow_succ]
    have hpow : (p : F.R) ^ O.length * r ^ O.length = A ^ O.length * (-(g * k)) ^ O.length := by
      rw [← cr_mul_pow, ← cr_mul_pow, hp]
      congr 1
      grind
    refine ⟨y * z + (d : F.R) * (-(g * k)) ^ O.length * (-k), ?_⟩
    rw [ha]
    generalize hev (b :: O) x = H at e
    generalize (p : F.R) ^ O.length = pn at hpow
    generalize r ^ O.length = rn at e hpow
    generalize A ^ O.length = An at e hpow
    generalize y ^ O.length = yn at e
    generalize (-(g * k)) ^ O.length = gn at hpow
    -- rn r (pn p d + x H)
    have s1 : rn * r * (pn * (p : F.R) * (d : F.R)) = An * gn * (-(A * g * k)) * (d : F.R) := by
      have : rn * r * (pn * (p : F.R) * (d : F.R)) = (pn * rn) * ((p : F.R) * r) * (d : F.R) := by grind
      rw [this, hpow, hp]
    have s2 : rn * r * (x * H) = A * y * (An * (yn + g * z)) := by
      have : rn * r * (x * H) = (r * x) * (rn * H) := by grind
      rw [this, hx, e]
    grind
/-- what is nought in R is a multiple of f -/
theorem cl_zero {a : PZ} (h : F.cl a = 0) : ∃ u, a = u * F.f := by
  obtain ⟨u, e⟩ := NF.cl_eq.mp (show F.cl a = F.cl 0 from h)
  exact ⟨u, by grind⟩
theorem prod_dvm {X : PZ} (hp : InvP p) : ∀ (l : List (PZ × Nat × Nat)), (∀ x ∈ l, Irp p x.1 x.2.1) → l.Pairwise (fun x y => ¬ Dvm p x.1 y.1) → (∀ x ∈ l, Dvm p (x.1 ^ x.2.2) X) → Dvm p (l.foldr (fun x b => x.1 ^ x.2.2 * b) 1) X
  | [], _, _, _ => ⟨X, 0, by show X = X * 1 + _; grind⟩
  | x :: l, hi, hw, hd => by
    obtain ⟨w1, w2⟩ := List.pairwise_cons.mp hw
    obtain ⟨X', c, e⟩ := hd x List.mem_cons_self
    have ih := prod_dvm (X := X') hp l (fun y hy => hi y (List.mem_cons_of_mem _ hy)) w2 fun y hy => by
      have h1 := hd y (List.mem_cons_of_mem _ hy)
      have hyi := hi y (List.mem_cons_of_mem _ hy)
      have hxi := hi x List.mem_cons_self
      refine hyi.cancel hp (a := x.1 ^ x.2.2) (fun z => ?_) (Dvm.congr ⟨c, by rw [e]; grind⟩ h1 : Dvm p (y.1 ^ y.2.2) (x.1 ^ x.2.2 * X'))
      have hz := hyi.pow hp _ z
      obtain ⟨_, e2⟩ := hyi.eq_of hp hxi hz
      exact w1 y hy (Dvm.congr e2.symm Dvm.self)
    obtain ⟨q, d, e2⟩ := ih
    refine ⟨q, c + x.1 ^ x.2.2 * d, ?_⟩
    show X = q * (x.1 ^ x.2.2 * l.foldr (fun x b => x.1 ^ x.2.2 * b) 1) + _
    rw [e, e2]
    grind
theorem foldr_mem {l : List (PZ × Nat × Nat)} {x : PZ × Nat × Nat} (hx : x ∈ l) : ∃ k : PZ, l.foldr (fun x b => x.1 ^ x.2.2 * b) 1 = x.1 ^ x.2.2 * k := by
  induction l with
  | nil => exact nomatch hx
  | cons y l ih =>
    rcases List.mem_cons.mp hx with rfl | hx
    · exact ⟨_, rfl⟩
    · obtain ⟨k, e⟩ := ih hx
      exact ⟨y.1 ^ y.2.2 * k, by show y.1 ^ y.2.2 * l.foldr _ 1 = _; rw [e]; grind⟩
/-- the greatest power that divides -/
theorem most_dvm (g X : PZ) : ∀ e : Nat, Dvm p (g ^ e) X ∨ ∃ a u w : _, a < e ∧ X = g ^ a * u + (p : PZ) * w ∧ ¬ Dvm p g u
  | 0 => .inl ⟨X, 0, by rw [Lean.Grind.Semiring.pow_zero]; grind⟩
  | e + 1 => by
    rcases most_dvm g X e with ⟨u, w, h⟩ | ⟨a, u, w, h1, h2, h3⟩
    · by_cases hu : Dvm p g u
      · obtain ⟨q, c, hq⟩ := hu
        exact .inl ⟨q, w + c * g ^ e, by rw [Lean.Grind.Semiring.pow_succ, h, hq]; grind⟩
      · exact .inr ⟨e, u, w, Nat.lt_succ_self e, by rw [h]; grind, hu⟩
    · exact .inr ⟨a, u, w, by omega, h2, h3⟩
theorem whole_at (hi : F.Irr) (hw : WholeAt F p) {x : F.R} {O : List Int} (hO : Fall p O) (hl : 2 ≤ O.length) (h0 : hev O x = 0) : NF.Dvp p x := by
  obtain ⟨l, h1, h2, h3⟩ := hw.ex
  have hp := hw.pr
  have all : ∀ y ∈ l, Dvm p (y.1 ^ y.2.2) (NF.lo x) := by
    rintro ⟨g, m, e⟩ hy
    obtain ⟨ig, he, hr⟩ := h1 _ hy
    dsimp only at ig he hr ⊢
    obtain ⟨k, hk⟩ := foldr_mem hy
    dsimp only at hk
    have gf : Dvm p g F.f := by
      refine Dvm.congr h3.symm ?_
      rw [hk]
      obtain ⟨e', rfl⟩ : ∃ e', e = e' + 1 := ⟨e - 1, by omega⟩
      rw [Lean.Grind.Semiring.pow_succ]
      exact ⟨g ^ e' * k, 0, by grind⟩
    rcases most_dvm (p := p) g (NF.lo x) e with h | ⟨a, u, w, ha, hX, hu⟩
    · exact h
    · exfalso
      by_cases he1 : e = 1
      · -- a single factor
        have ha0 : a = 0 := by omega
        subst ha0
        rw [Lean.Grind.Semiring.pow_zero] at hX
        obtain ⟨z, ez⟩ := fall_low hO x
        rw [h0] at ez
        obtain ⟨Z, rfl⟩ := NF.rep z
        have ec : F.cl (NF.lo x ^ (O.length - 1) + (p : PZ) * Z) = 0 := by
          rw [NF.cl_add, NF.cl_pow, NF.cl_lo, NF.cl_mul, NF.cl_int]; exact ez.symm
        obtain ⟨v, ev⟩ := cl_zero ec
        have hd : Dvm p g (NF.lo x ^ (O.length - 1)) := by
          have : NF.lo x ^ (O.length - 1) = v * F.f - (p : PZ) * Z := by grind
          rw [this]
          exact (gf.mul v).sub (Dvm.of_dvp (PZ.dvp_iff.mpr ⟨Z, rfl⟩))
        have hxg := ig.pow hp _ hd
        rw [hX] at hxg
        have : Dvm p g u := by
          have h5 : u = 1 * u + (p : PZ) * w - (p : PZ) * w := by grind
          rw [h5]
          exact hxg.sub (Dvm.of_dvp (PZ.dvp_iff.mpr ⟨w, rfl⟩))
        exact hu this
      · obtain ⟨q, s, ef, bs, ns⟩ := hr (by omega)
        -- s = p s1
        have gs : Dvm p g s := by
          have : s = F.f - q * g := by grind
          rw [this]
          exact gf.sub Dvm.right
        obtain ⟨s1, es⟩ := PZ.dvp_iff.mp (dvm_low ig.mon bs gs)
        have hp0 : p ≠ 0 := by have := hp.pr.1; omega
        have bs1 : s1.Bd m := fun t ht => by
          have := bs t ht
          rw [es, PZ.co_int_mul] at this
          rcases Int.mul_eq_zero.mp this with z | z
          · exact absurd z hp0
          · exact z
        have ns1 : ¬ Dvm p g s1 := fun z => ns fun t => by
          obtain ⟨j, hj⟩ := dvm_low ig.mon bs1 z t
          exact ⟨j, by rw [es, PZ.co_int_mul, hj]; grind⟩
        -- q = g ^ (e - 1) k + p q'
        obtain ⟨e', rfl⟩ : ∃ e', e = e' + 1 := ⟨e - 1, by omega⟩
        have hq : Eqp p q (g ^ e' * k) := by
          rw [Eqp.iff]
          have hd : ((q - g ^ e' * k) * g).Dvp p := by
            rw [hk] at h3
            obtain ⟨c, ec⟩ := h3
            rw [Lean.Grind.Semiring.pow_succ] at ec
            exact PZ.dvp_iff.mpr ⟨c - s1, by grind⟩
          rcases PZ.dvp_mul hp.pr hd with z | z
          · exact z
          · have := z m
            rw [ig.mon.top] at this
            have h1 := hp.pr.1
            have := Int.le_of_dvd (by decide) this
            omega
        obtain ⟨q', eq⟩ := hq
        -- f = g ^ e k + p r
        have ef2 : F.f = g ^ e' * g * k + (p : PZ) * (q' * g + s1) := by rw [ef, es, eq]; grind
        have nr : ¬ Dvm p g (q' * g + s1) := fun z => ns1 (by
          have : s1 = (q' * g + s1) - q' * g := by grind
          rw [this]
          exact z.sub Dvm.right)
        generalize q' * g + s1 = r at ef2 nr
        obtain ⟨b, hb⟩ : ∃ b, e' = a + b := ⟨e' - a, by omega⟩
        have hgp : g ^ e' = g ^ a * g ^ b := by
          rw [hb]
          clear hb ef2 hX ha hk hr
          induction b with
          | zero => rw [Nat.add_zero, Lean.Grind.Semiring.pow_zero]; grind
          | succ b ih => rw [← Nat.add_assoc, Lean.Grind.Semiring.pow_succ, Lean.Grind.Semiring.pow_succ, ih]; grind
        -- p r = - A g k1
        have c1 : (p : F.R) * F.cl r = -(F.cl (g ^ a) * F.cl g * F.cl (g ^ b * k)) := by
          have := congrArg F.cl ef2
          rw [NF.cl_f, NF.cl_add, NF.cl_mul, NF.cl_mul, NF.cl_mul, NF.cl_int, hgp, NF.cl_mul] at this
          rw [NF.cl_mul]
          grind
        have c2 : F.cl r * x = F.cl (g ^ a) * F.cl (u * r - g * (g ^ b * k) * w) := by
          have hx : x = F.cl (g ^ a) * F.cl u + (p : F.R) * F.cl w := by
            rw [← NF.cl_lo x, hX, NF.cl_add, NF.cl_mul, NF.cl_mul, NF.cl_int]
          rw [hx, NF.cl_sub, NF.cl_mul, NF.cl_mul, NF.cl_mul]
          grind
        have ny : ¬ Dvm p g (u * r - g * (g ^ b * k) * w) := fun z => by
          have h5 : Dvm p g (u * r) := by
            have : u * r = (u * r - g * (g ^ b * k) * w) + g * ((g ^ b * k) * w) := by grind
            rw [this]
            exact z.add Dvm.left
          rcases ig.prime hp h5 with z | z
          · exact hu z
          · exact nr z
        generalize u * r - g * (g ^ b * k) * w = y at c2 ny
        obtain ⟨z, ez⟩ := fall_high c2 c1 hO
        rw [h0] at ez
        -- g is not nought in R
        have hmn : m < F.n := by
          have hmk : (g ^ (e' + 1)).Mon (m * (e' + 1)) := by
            have key : ∀ j : Nat, (g ^ j).Mon (m * j) := by
              intro j
              induction j with
              | zero => rw [Lean.Grind.Semiring.pow_zero, Nat.mul_zero]; exact ⟨fun t ht => by rw [PZ.co_one, if_neg (by omega)], rfl⟩
              | succ j ih =>
                rw [Lean.Grind.Semiring.pow_succ, Nat.mul_succ]
                obtain ⟨t1, t2⟩ := PZ.mul_top ih.bd ig.mon.bd
                exact ⟨t1, by rw [t2, ih.top, ig.mon.top]; rfl⟩
            exact key _
          apply Classical.byContradiction
          intro hge
          have hpos := ig.pos
          have h2m : F.n < m * (e' + 1) := by
            have : m * 2 ≤ m * (e' + 1) := Nat.mul_le_mul_left m (by omega)
            omega
          have hdv : Dvm p (g ^ (e' + 1)) F.f := Dvm.congr h3.symm (by rw [hk]; exact Dvm.left)
          have := dvm_low hmk (F.mon.bd.mono (by omega)) hdv F.n
          rw [F.mon.top] at this
          have h1 := hp.pr.1
          have := Int.le_of_dvd (by decide) this
          omega
        have hg0 : F.cl g ≠ 0 := fun z => by
          have hgb : g.Bd F.n := ig.mon.bd.mono (by omega)
          have := NF.low_uniq hgb (PZ.bd_zero _) z
          have h1 := ig.mon.top
          rw [this, PZ.co_zero] at h1
          omega
        have hA : F.cl (g ^ a) ≠ 0 := by rw [NF.cl_pow]; exact NF.pow_ne hi hg0 a
        have hAn := NF.pow_ne hi hA (O.length - 1)
        have hy : F.cl y ^ (O.length - 1) + F.cl g * z = 0 := by
          rcases NF.domain hi (show F.cl (g ^ a) ^ (O.length - 1) * (F.cl y ^ (O.length - 1) + F.cl g * z) = 0 by rw [← ez]; grind) with q | q
          · exact absurd q hAn
          · exact q
        obtain ⟨Z, rfl⟩ := NF.rep z
        have ec : F.cl (y ^ (O.length - 1) + g * Z) = 0 := by rw [NF.cl_add, NF.cl_pow, NF.cl_mul]; exact hy
        obtain ⟨v, ev⟩ := cl_zero ec
        refine ny (ig.pow hp (O.length - 1) ?_)
        have : y ^ (O.length - 1) = v * F.f - g * Z := by grind
        rw [this]
        exact (gf.mul v).sub Dvm.left
  have hd := prod_dvm hp l (fun y hy => (h1 y hy).1) h2 all
  exact dvm_low F.mon (NF.lo_bd x) (Dvm.congr_l h3.symm hd)
end T
set_option maxRecDepth 100000
set_option maxHeartbeats 4000000
namespace T
open PySem PySem.Spec PyProof.Rows L2
/-! ### a polynomial parted by a monic one with small places -/
/-! ### a ring that was made is whole at the primes whose squares divide its measure -/
end T
set_option maxRecDepth 100000
set_option maxHeartbeats 4000000
namespace T
open PySem PySem.Spec PyProof.Rows L2
/-! ### the measure, and double factors with a rest that p p divides -/
end T
set_option maxRecDepth 100000
set_option maxHeartbeats 4000000
namespace T
open PySem PySem.Spec PyProof.Rows L2
end T
set_option maxRecDepth 100000
set_option maxHeartbeats 4000000
namespace T
open PySem PySem.Spec PyProof.Rows L2
/-! ### numbers whose quotients are whole -/
section
variable {F : NF} {f x : List Int} {n : Nat} {A : List (List Int)}
end
end T
set_option maxRecDepth 100000
set_option maxHeartbeats 4000000
namespace T
open PySem PySem.Spec PyProof.Rows L2
/-! ### the own polynomial by minors, and whether a quotient is whole by it -/
end T
set_option maxRecDepth 100000
set_option maxHeartbeats 4000000
namespace T
open PySem PySem.Spec PyProof.Rows L2
/-! ### the law's word that a polynomial stays modulo p -/
end T
set_option maxRecDepth 100000
set_option maxHeartbeats 4000000
namespace T
open PySem PySem.Spec PyProof.Rows L2
/-! ### the order of data -/
section
variable {α β : Type} [DecidableEq α] [DecidableEq β] {A : Dt α} {B : Dt β}
end
end T
set_option maxRecDepth 100000
set_option maxHeartbeats 4000000
namespace T
open PySem PySem.Spec PyProof.Rows L2
/-! ### lattices in the ring of a polynomial -/
section
variable {F : NF}
structure IsSub (S : F.R → Prop) : Prop where
  zero : S 0
  sub : ∀ {x y}, S x → S y → S (x - y)
theorem IsSub.neg {S : F.R → Prop} (h : IsSub S) {x : F.R} (hx : S x) : S (-x) := by
  have := h.sub h.zero hx
  rwa [show (0 : F.R) - x = -x by grind] at this
theorem IsSub.add {S : F.R → Prop} (h : IsSub S) {x y : F.R} (hx : S x) (hy : S y) : S (x + y) := by
  have := h.sub hx (h.neg hy)
  rwa [show x - -y = x + y by grind] at this
theorem IsSub.natMul {S : F.R → Prop} (h : IsSub S) {x : F.R} (hx : S x) : ∀ k : Nat, S (((k : Int) : F.R) * x)
  | 0 => by rw [show (((0 : Nat) : Int) : F.R) * x = 0 by grind]; exact h.zero
  | k + 1 => by
    rw [show (((k + 1 : Nat) : Int) : F.R) * x = ((k : Int) : F.R) * x + x by
      rw [show ((k + 1 : Nat) : Int) = (k : Int) + 1 by omega]; grind]
    exact h.add (h.natMul hx k) hx
theorem IsSub.int {S : F.R → Prop} (h : IsSub S) {x : F.R} (hx : S x) (c : Int) : S ((c : F.R) * x) := by
  rcases Int.natAbs_eq c with e | e
  · rw [e]; exact h.natMul hx _
  · rw [e, show ((-(c.natAbs : Int) : Int) : F.R) * x = -(((c.natAbs : Int) : F.R) * x) by grind]
    exact h.neg (h.natMul hx _)
/-- all sums of some numbers -/
def Sp (G : F.R → Prop) (x : F.R) : Prop := ∀ S : F.R → Prop, IsSub S → (∀ g, G g → S g) → S x
theorem Sp.is (G : F.R → Prop) : IsSub (Sp G) := ⟨fun S h _ => h.zero, fun hx hy S h g => h.sub (hx S h g) (hy S h g)⟩
theorem Sp.of {G : F.R → Prop} {x : F.R} (h : G x) : Sp G x := fun _ _ g => g x h
theorem Sp.le {G S : F.R → Prop} (h : IsSub S) (g : ∀ x, G x → S x) {x : F.R} (hx : Sp G x) : S x := hx S h g
theorem Sp.mono {G H : F.R → Prop} (g : ∀ x, G x → Sp H x) {x : F.R} (hx : Sp G x) : Sp H x := hx.le (Sp.is H) g
/-- the powers of the root -/
def NF.e (F : NF) (i : Nat) : F.R := F.cl (PZ.xp i)
theorem NF.co_e {i : Nat} (h : i < F.n) (t : Nat) : NF.co (F.e i) t = if t = i then 1 else 0 := by
  unfold NF.co NF.e
  rw [NF.lo_mk, xp_co]
  intro t ht
  rw [xp_co, if_neg (by omega)]
theorem NF.e_succ (i : Nat) : F.e (i + 1) = F.cl PZ.X * F.e i := rfl
theorem NF.e_zero : F.e 0 = 1 := rfl
/-- a number's low places -/
noncomputable def NF.part (x : F.R) : Nat → F.R
  | 0 => 0
  | s + 1 => NF.part x s + (NF.co x s : F.R) * F.e s
theorem NF.co_part (x : F.R) : ∀ (s : Nat), s ≤ F.n → ∀ t, NF.co (NF.part x s) t = if t < s then NF.co x t else 0
  | 0, _, t => by rw [if_neg (by omega)]; exact NF.co_zero t
  | s + 1, hs, t => by
    show NF.co (NF.part x s + (NF.co x s : F.R) * F.e s) t = _
    rw [NF.co_add, NF.co_int_mul, NF.co_part x s (by omega) t, NF.co_e (by omega)]
    by_cases h : t < s
    · rw [if_pos h, if_neg (by omega), if_pos (by omega)]; omega
    · by_cases h2 : t = s
      · rw [if_neg h, if_pos h2, if_pos (by omega), h2]; omega
      · rw [if_neg h, if_neg h2, if_neg (by omega)]; omega
theorem NF.part_all (x : F.R) : NF.part x F.n = x := NF.ext fun t ht => by rw [NF.co_part x F.n (Nat.le_refl _), if_pos ht]
theorem IsSub.all {S : F.R → Prop} (h : IsSub S) (he : ∀ i, i < F.n → S (F.e i)) (x : F.R) : S x := by
  rw [← NF.part_all x]
  have : ∀ s, s ≤ F.n → S (NF.part x s) := by
    intro s
    induction s with
    | zero => intro _; exact h.zero
    | succ s ih => intro hs; exact h.add (ih (by omega)) (h.int (he s (by omega)) _)
  exact this _ (Nat.le_refl _)
/-! ### stair tables -/
/-- B 0 .. B (s - 1): corners above 0, noughts behind them -/
structure Tb (F : NF) (B : Nat → F.R) : Prop where
  up : ∀ i j, i < F.n → i < j → NF.co (B i) j = 0
  pos : ∀ i, i < F.n → 0 < NF.co (B i) i
structure TbR (F : NF) (B : Nat → F.R) : Prop extends Tb F B where
  red : ∀ i j, i < F.n → j < i → 0 ≤ NF.co (B i) j ∧ NF.co (B i) j < NF.co (B j) j
def Rw (B : Nat → F.R) (x : F.R) : Prop := ∃ i, i < F.n ∧ x = B i
/-- what falls to nought -/
def Mem (B : Nat → F.R) : Nat → F.R → Prop
  | 0, x => x = 0
  | s + 1, x => NF.co (B s) s ∣ NF.co x s ∧ Mem B s (x - ((NF.co x s / NF.co (B s) s : Int) : F.R) * B s)
theorem Mem.is (B : Nat → F.R) : ∀ s, IsSub (Mem B s)
  | 0 => ⟨rfl, fun {x y} hx hy => by have hx : x = 0 := hx; have hy : y = 0 := hy; show x - y = 0; rw [hx, hy]; grind⟩
  | s + 1 => by
    have ih := Mem.is B s
    constructor
    · refine ⟨by rw [NF.co_zero]; exact Int.dvd_zero _, ?_⟩
      rw [NF.co_zero, Int.zero_ediv, show (0 : F.R) - ((0 : Int) : F.R) * B s = 0 by grind]
      exact ih.zero
    · intro x y hx hy
      obtain ⟨h1, h2⟩ := hx
      obtain ⟨h3, h4⟩ := hy
      refine ⟨by rw [NF.co_sub]; exact Int.dvd_sub h1 h3, ?_⟩
      rw [NF.co_sub, Int.sub_ediv_of_dvd _ h3]
      have := ih.sub h2 h4
      rwa [show x - ((NF.co x s / NF.co (B s) s : Int) : F.R) * B s - (y - ((NF.co y s / NF.co (B s) s : Int) : F.R) * B s) = x - y - ((NF.co x s / NF.co (B s) s - NF.co y s / NF.co (B s) s : Int) : F.R) * B s by grind] at this
theorem Mem.lift {B : Nat → F.R} {s : Nat} {x : F.R} (h : Mem B s x) (h0 : NF.co x s = 0) : Mem B (s + 1) x := by
  refine ⟨by rw [h0]; exact Int.dvd_zero _, ?_⟩
  rw [h0, Int.zero_ediv, show x - ((0 : Int) : F.R) * B s = x by grind]
  exact h
theorem Mem.row {B : Nat → F.R} (hB : Tb F B) {i : Nat} (hi : i < F.n) : ∀ d, i + 1 + d ≤ F.n → Mem B (i + 1 + d) (B i)
  | 0, _ => by
    have hp := hB.pos i hi
    refine ⟨Int.dvd_refl _, ?_⟩
    rw [Int.ediv_self (by omega), show B i - ((1 : Int) : F.R) * B i = 0 by grind]
    exact (Mem.is B i).zero
  | d + 1, h => Mem.lift (s := i + 1 + d) (Mem.row hB hi d (by omega)) (hB.up i (i + 1 + d) hi (by omega))
theorem Mem.span {B : Nat → F.R} : ∀ {s : Nat} {x : F.R}, s ≤ F.n → Mem B s x → Sp (Rw B) x
  | 0, x, _, h => by have h : x = 0 := h; rw [h]; exact (Sp.is _).zero
  | s + 1, x, hs, h => by
    have h1 := Mem.span (by omega) h.2
    have h2 := (Sp.is (Rw B)).int (Sp.of (G := Rw B) ⟨s, by omega, rfl⟩) (NF.co x s / NF.co (B s) s)
    have := (Sp.is (Rw B)).add h1 h2
    rwa [show x - ((NF.co x s / NF.co (B s) s : Int) : F.R) * B s + ((NF.co x s / NF.co (B s) s : Int) : F.R) * B s = x by grind] at this
theorem mem_iff {B : Nat → F.R} (hB : Tb F B) {x : F.R} : Sp (Rw B) x ↔ Mem B F.n x := by
  constructor
  · intro h
    exact h.le (Mem.is B F.n) fun g ⟨i, hi, e⟩ => by
      rw [e]
      have := Mem.row hB hi (F.n - (i + 1)) (by omega)
      rwa [show i + 1 + (F.n - (i + 1)) = F.n by omega] at this
  · exact Mem.span (Nat.le_refl _)
theorem dvd_small {c a : Int} (h : c ∣ a) (h1 : -c < a) (h2 : a < c) : a = 0 := by
  obtain ⟨k, rfl⟩ := h
  by_cases h3 : k = 0
  · rw [h3, Int.mul_zero]
  · exfalso
    have hc : 0 < c := by omega
    by_cases hk : 0 < k
    · have := Int.mul_le_mul_of_nonneg_left (show 1 ≤ k by omega) (show 0 ≤ c by omega); omega
    · have := Int.mul_le_mul_of_nonneg_left (show k ≤ -1 by omega) (show 0 ≤ c by omega); omega
/-- what is held and small is nought -/
theorem Mem.small {B : Nat → F.R} : ∀ {s : Nat} {x : F.R}, Mem B s x → (∀ t, t < s → -NF.co (B t) t < NF.co x t ∧ NF.co x t < NF.co (B t) t) → x = 0
  | 0, x, h, _ => h
  | s + 1, x, h, hs => by
    have e := dvd_small h.1 (hs s (by omega)).1 (hs s (by omega)).2
    have h2 := h.2
    rw [e, Int.zero_ediv, show x - ((0 : Int) : F.R) * B s = x by grind] at h2
    exact Mem.small h2 fun t ht => hs t (by omega)
/-- the rest -/
theorem tb_rest {B : Nat → F.R} {S : F.R → Prop} (hS : IsSub S) (hB : Tb F B) (hBS : ∀ i, i < F.n → S (B i)) : ∀ (s : Nat), s ≤ F.n → ∀ x : F.R, ∃ y, S (x - y) ∧ (∀ t, t < s → 0 ≤ NF.co y t ∧ NF.co y t < NF.co (B t) t) ∧ ∀ t, s ≤ t → NF.co y t = NF.co x t
  | 0, _, x => ⟨x, by rw [show x - x = 0 by grind]; exact hS.zero, fun t ht => absurd ht (by omega), fun t _ => rfl⟩
  | s + 1, hs, x => by
    have hp := hB.pos s (by omega)
    obtain ⟨y, h1, h2, h3⟩ := tb_rest hS hB hBS s (by omega) (x - ((NF.co x s / NF.co (B s) s : Int) : F.R) * B s)
    refine ⟨y, ?_, ?_, ?_⟩
    · have := hS.add h1 (hS.int (hBS s (by omega)) (NF.co x s / NF.co (B s) s))
      rwa [show x - ((NF.co x s / NF.co (B s) s : Int) : F.R) * B s - y + ((NF.co x s / NF.co (B s) s : Int) : F.R) * B s = x - y by grind] at this
    · intro t ht
      by_cases e : t < s
      · exact h2 t e
      · have e : t = s := by omega
        subst e
        rw [h3 t (Nat.le_refl _), NF.co_sub, NF.co_int_mul]
        have e1 := Int.emod_nonneg (NF.co x t) (show NF.co (B t) t ≠ 0 by omega)
        have e2 := Int.emod_lt_of_pos (NF.co x t) hp
        have e3 := Int.mul_ediv_add_emod (NF.co x t) (NF.co (B t) t)
        rw [Int.mul_comm] at e3
        constructor <;> omega
    · intro t ht
      rw [h3 t (by omega), NF.co_sub, NF.co_int_mul, hB.up s t (by omega) (by omega)]
      omega
end
/-- the least number with a property -/
theorem least_nat {P : Nat → Prop} {k : Nat} (h : P k) : ∃ m, P m ∧ ∀ j, P j → m ≤ j := by
  classical
  have : ∀ N k, k ≤ N → P k → ∃ m, P m ∧ ∀ j, P j → m ≤ j := by
    intro N
    induction N with
    | zero => intro k hk hp; have : k = 0 := by omega
              subst this; exact ⟨0, hp, fun j _ => Nat.zero_le j⟩
    | succ N ih =>
      intro k hk hp
      by_cases e : ∃ j, P j ∧ j < k
      · obtain ⟨j, hj, hl⟩ := e
        exact ih j (by omega) hj
      · exact ⟨k, hp, fun j hj => Nat.le_of_not_lt fun hl => e ⟨j, hj, hl⟩⟩
  exact this k k (Nat.le_refl _) h
section
variable {F : NF}
/-- each lattice with a whole number has a table -/
theorem tb_ex {S : F.R → Prop} (hS : IsSub S) {m : Int} (hm : 0 < m) (h : ∀ i, i < F.n → S ((m : F.R) * F.e i)) : ∃ B, TbR F B ∧ ∀ x, S x ↔ Sp (Rw B) x := by
  have step : ∀ i, i < F.n → ∃ b : F.R, S b ∧ (∀ j, i < j → NF.co b j = 0) ∧ 0 < NF.co b i ∧ ∀ c : F.R, S c → (∀ j, i < j → NF.co c j = 0) → 0 < NF.co c i → NF.co b i ≤ NF.co c i := by
    intro i hi
    obtain ⟨k, ⟨b, h1, h2, h3, h4⟩, hk⟩ := least_nat (P := fun k => ∃ b : F.R, S b ∧ (∀ j, i < j → NF.co b j = 0) ∧ 0 < NF.co b i ∧ NF.co b i = (k : Int)) (k := m.toNat) ⟨(m : F.R) * F.e i, h i hi, fun j hj => by rw [NF.co_int_mul, NF.co_e hi, if_neg (by omega), Int.mul_zero], by rw [NF.co_int_mul, NF.co_e hi, if_pos rfl]; omega, by rw [NF.co_int_mul, NF.co_e hi, if_pos rfl]; omega⟩
    refine ⟨b, h1, h2, h3, fun c g1 g2 g3 => ?_⟩
    have := hk (NF.co c i).toNat ⟨c, g1, g2, g3, by omega⟩
    omega
  have : ∃ B0 : Nat → F.R, ∀ i, i < F.n → S (B0 i) ∧ (∀ j, i < j → NF.co (B0 i) j = 0) ∧ 0 < NF.co (B0 i) i ∧ ∀ c : F.R, S c → (∀ j, i < j → NF.co c j = 0) → 0 < NF.co c i → NF.co (B0 i) i ≤ NF.co c i := by
    classical
    refine ⟨fun i => if hi : i < F.n then Classical.choose (step i hi) else 0, fun i hi => ?_⟩
    simp only [hi, dite_true]
    exact Classical.choose_spec (step i hi)
  obtain ⟨B0, h0⟩ := this
  have t0 : Tb F B0 := ⟨fun i j hi hj => (h0 i hi).2.1 j hj, fun i hi => (h0 i hi).2.2.1⟩
  have least : ∀ (s : Nat), s ≤ F.n → ∀ y : F.R, S y → (∀ t, s ≤ t → NF.co y t = 0) → (∀ t, t < s → 0 ≤ NF.co y t ∧ NF.co y t < NF.co (B0 t) t) → y = 0 := by
    intro s
    induction s with
    | zero => intro _ y _ hy _; exact NF.ext fun t _ => by rw [hy t (Nat.zero_le t), NF.co_zero]
    | succ s ih =>
      intro hs y hy g1 g2
      refine ih (by omega) y hy (fun t ht => ?_) fun t ht => g2 t (by omega)
      by_cases e : t = s
      · subst e
        have a := g2 t (by omega)
        by_cases e : 0 < NF.co y t
        · have := (h0 t (by omega)).2.2.2 y hy (fun j hj => g1 j (by omega)) e; omega
        · omega
      · exact g1 t (by omega)
  have red : ∀ i, i < F.n → ∃ b : F.R, S (B0 i - b) ∧ (∀ t, t < i → 0 ≤ NF.co b t ∧ NF.co b t < NF.co (B0 t) t) ∧ ∀ t, i ≤ t → NF.co b t = NF.co (B0 i) t := fun i hi => tb_rest hS t0 (fun j hj => (h0 j hj).1) i (by omega) (B0 i)
  have : ∃ B : Nat → F.R, ∀ i, i < F.n → S (B0 i - B i) ∧ (∀ t, t < i → 0 ≤ NF.co (B i) t ∧ NF.co (B i) t < NF.co (B0 t) t) ∧ ∀ t, i ≤ t → NF.co (B i) t = NF.co (B0 i) t := by
    classical
    refine ⟨fun i => if hi : i < F.n then Classical.choose (red i hi) else 0, fun i hi => ?_⟩
    simp only [hi, dite_true]
    exact Classical.choose_spec (red i hi)
  obtain ⟨B, hB⟩ := this
  have tB : TbR F B := by
    refine ⟨⟨fun i j hi hj => ?_, fun i hi => ?_⟩, fun i j hi hj => ?_⟩
    · rw [(hB i hi).2.2 j (by omega)]; exact (h0 i hi).2.1 j hj
    · rw [(hB i hi).2.2 i (Nat.le_refl _)]; exact (h0 i hi).2.2.1
    · rw [(hB j (by omega)).2.2 j (Nat.le_refl _)]; exact (hB i hi).2.1 j hj
  have sB : ∀ i, i < F.n → S (B i) := fun i hi => by
    have := hS.sub (h0 i hi).1 (hB i hi).1
    rwa [show B0 i - (B0 i - B i) = B i by grind] at this
  refine ⟨B, tB, fun x => ⟨fun hx => ?_, fun hx => hx.le hS fun g ⟨i, hi, e⟩ => e ▸ sB i hi⟩⟩
  obtain ⟨y, h1, h2, h3⟩ := tb_rest (S := Sp (Rw B)) (Sp.is _) tB.toTb (fun i hi => Sp.of ⟨i, hi, rfl⟩) F.n (Nat.le_refl _) x
  have sy : S y := by
    have := hS.sub hx (h1.le hS fun g ⟨i, hi, e⟩ => e ▸ sB i hi)
    rwa [show x - (x - y) = y by grind] at this
  have z := least F.n (Nat.le_refl _) y sy (fun t ht => NF.co_out y ht) fun t ht => by rw [← (hB t ht).2.2 t (Nat.le_refl _)]; exact h2 t ht
  rwa [z, show x - 0 = x by grind] at h1
end
end T
set_option maxRecDepth 100000
set_option maxHeartbeats 4000000
namespace T
open PySem PySem.Spec PyProof.Rows L2
/-! ### how many rests -/
section
variable {F : NF}
/-- T has k rests by S -/
def Ix (S U : F.R → Prop) (k : Nat) : Prop := ∃ l : List F.R, l.length = k ∧ (∀ x ∈ l, U x) ∧ l.Pairwise (fun x y => ¬ S (x - y)) ∧ ∀ x, U x → ∃ y ∈ l, S (x - y)
theorem pigeon {S : F.R → Prop} (hS : IsSub S) : ∀ (l l' : List F.R), l.Pairwise (fun x y => ¬ S (x - y)) → (∀ x ∈ l, ∃ y ∈ l', S (x - y)) → l.length ≤ l'.length
  | [], _, _, _ => Nat.zero_le _
  | x :: xs, l', hp, h => by
    obtain ⟨p1, p2⟩ := List.pairwise_cons.mp hp
    obtain ⟨y, hy, sy⟩ := h x List.mem_cons_self
    obtain ⟨a, b, rfl⟩ := List.append_of_mem hy
    have := pigeon hS xs (a ++ b) p2 fun z hz => by
      obtain ⟨w, hw, sw⟩ := h z (List.mem_cons_of_mem _ hz)
      rcases List.mem_append.mp hw with h1 | h1
      · exact ⟨w, List.mem_append_left _ h1, sw⟩
      · rcases List.mem_cons.mp h1 with h2 | h2
        · subst h2
          have := hS.sub sy sw
          rw [show x - w - (z - w) = x - z by grind] at this
          exact absurd this (p1 z hz)
        · exact ⟨w, List.mem_append_right _ h2, sw⟩
    simp only [List.length_append, List.length_cons] at this ⊢
    omega
theorem Ix.uniq {S U : F.R → Prop} (hS : IsSub S) {k k' : Nat} (h : Ix S U k) (h' : Ix S U k') : k = k' := by
  obtain ⟨l, rfl, l1, l2, l3⟩ := h
  obtain ⟨l', rfl, m1, m2, m3⟩ := h'
  exact Nat.le_antisymm (pigeon hS l l' l2 fun x hx => m3 x (l1 x hx)) (pigeon hS l' l m2 fun x hx => l3 x (m1 x hx))
theorem Ix.congr {S S' U U' : F.R → Prop} {k : Nat} (h : Ix S U k) (hs : ∀ x, S x ↔ S' x) (hu : ∀ x, U x ↔ U' x) : Ix S' U' k := by
  rwa [show S' = S from funext fun x => propext (hs x).symm, show U' = U from funext fun x => propext (hu x).symm]
theorem pairwise_sums {S U : F.R → Prop} (hS : IsSub S) (hU : IsSub U) (hSU : ∀ x, S x → U x) {m : List F.R} (hm : ∀ y ∈ m, U y) (mp : m.Pairwise (fun x y => ¬ S (x - y))) :
    ∀ l : List F.R, l.Pairwise (fun x y => ¬ U (x - y)) → (l.flatMap fun x => m.map fun y => x + y).Pairwise (fun x y => ¬ S (x - y))
  | [], _ => List.Pairwise.nil
  | x :: l, h => by
    obtain ⟨h1, h2⟩ := List.pairwise_cons.mp h
    rw [List.flatMap_cons, List.pairwise_append]
    refine ⟨?_, pairwise_sums hS hU hSU hm mp l h2, ?_⟩
    · rw [List.pairwise_map]
      exact mp.imp fun {a b} q z => q (by rwa [show x + a - (x + b) = a - b by grind] at z)
    · intro a ha b hb z
      obtain ⟨y, hy, rfl⟩ := List.mem_map.mp ha
      obtain ⟨x', hx', hb⟩ := List.mem_flatMap.mp hb
      obtain ⟨y', hy', rfl⟩ := List.mem_map.mp hb
      have w := hU.add (hSU _ z) (hU.sub (hm y' hy') (hm y hy))
      rw [show x + y - (x' + y') + (y' - y) = x - x' by grind] at w
      exact h1 x' hx' w
theorem Ix.tower {S U V : F.R → Prop} (hS : IsSub S) (hU : IsSub U) (hV : IsSub V) (hSU : ∀ x, S x → U x) (hUV : ∀ x, U x → V x) {a b : Nat} (h : Ix U V a) (g : Ix S U b) : Ix S V (a * b) := by
  obtain ⟨l, rfl, l1, l2, l3⟩ := h
  obtain ⟨m, rfl, m1, m2, m3⟩ := g
  refine ⟨l.flatMap fun x => m.map fun y => x + y, ?_, ?_, pairwise_sums hS hU hSU m1 m2 l l2, ?_⟩
  · clear l1 l2 l3
    induction l with
    | nil => simp
    | cons x l ih => rw [List.flatMap_cons, List.length_append, ih, List.length_map, List.length_cons, Nat.succ_mul, Nat.add_comm]
  · intro z hz
    obtain ⟨x, hx, hz⟩ := List.mem_flatMap.mp hz
    obtain ⟨y, hy, rfl⟩ := List.mem_map.mp hz
    exact hV.add (l1 x hx) (hUV _ (m1 y hy))
  · intro z hz
    obtain ⟨x, hx, sx⟩ := l3 z hz
    obtain ⟨y, hy, sy⟩ := m3 _ sx
    exact ⟨x + y, List.mem_flatMap.mpr ⟨x, hx, List.mem_map.mpr ⟨y, hy, rfl⟩⟩, by rwa [show z - (x + y) = z - x - y by grind]⟩
/-- the box of a table -/
noncomputable def boxL (F : NF) (B : Nat → F.R) : Nat → List F.R
  | 0 => [0]
  | s + 1 => (boxL F B s).flatMap fun x => (List.range (NF.co (B s) s).toNat).map fun a : Nat => x + ((a : Int) : F.R) * F.e s
theorem boxL_in {B : Nat → F.R} : ∀ (s : Nat), s ≤ F.n → ∀ x ∈ boxL F B s, (∀ t, t < s → 0 ≤ NF.co x t ∧ NF.co x t < NF.co (B t) t) ∧ ∀ t, s ≤ t → NF.co x t = 0
  | 0, _, x, hx => by
    rw [show x = 0 from List.mem_singleton.mp hx]
    exact ⟨fun t ht => absurd ht (by omega), fun t _ => NF.co_zero t⟩
  | s + 1, hs, x, hx => by
    obtain ⟨y, hy, hx⟩ := List.mem_flatMap.mp hx
    obtain ⟨a, ha, rfl⟩ := List.mem_map.mp hx
    have ha := List.mem_range.mp ha
    obtain ⟨g1, g2⟩ := boxL_in s (by omega) y hy
    constructor
    · intro t ht
      rw [NF.co_add, NF.co_int_mul, NF.co_e (by omega)]
      by_cases e : t = s
      · subst e; rw [g2 t (Nat.le_refl _), if_pos rfl]; omega
      · rw [if_neg e]; have := g1 t (by omega); omega
    · intro t ht
      rw [NF.co_add, NF.co_int_mul, NF.co_e (by omega), if_neg (by omega), g2 t (by omega)]
      omega
theorem boxL_all {B : Nat → F.R} : ∀ (s : Nat), s ≤ F.n → ∀ x : F.R, (∀ t, t < s → 0 ≤ NF.co x t ∧ NF.co x t < NF.co (B t) t) → (∀ t, s ≤ t → NF.co x t = 0) → x ∈ boxL F B s
  | 0, _, x, _, h => List.mem_singleton.mpr (NF.ext fun t _ => by rw [h t (Nat.zero_le t), NF.co_zero])
  | s + 1, hs, x, h, h0 => by
    refine List.mem_flatMap.mpr ⟨x - (NF.co x s : F.R) * F.e s, boxL_all s (by omega) _ ?_ ?_, List.mem_map.mpr ⟨(NF.co x s).toNat, ?_, ?_⟩⟩
    · intro t ht
      rw [NF.co_sub, NF.co_int_mul, NF.co_e (by omega), if_neg (by omega)]
      have := h t (by omega); omega
    · intro t ht
      rw [NF.co_sub, NF.co_int_mul, NF.co_e (by omega)]
      by_cases e : t = s
      · subst e; rw [if_pos rfl]; omega
      · rw [if_neg e, h0 t (by omega)]; omega
    · have := h s (by omega); exact List.mem_range.mpr (by omega)
    · have := h s (by omega)
      rw [show ((NF.co x s).toNat : Int) = NF.co x s by omega]; grind
noncomputable def szT (F : NF) (B : Nat → F.R) : Nat → Nat
  | 0 => 1
  | s + 1 => szT F B s * (NF.co (B s) s).toNat
theorem boxL_len {B : Nat → F.R} : ∀ (s : Nat), (boxL F B s).length = szT F B s
  | 0 => rfl
  | s + 1 => by
    have : ∀ (l : List F.R) (k : Nat), (l.flatMap fun x => (List.range k).map fun a : Nat => x + ((a : Int) : F.R) * F.e s).length = l.length * k := by
      intro l k
      induction l with
      | nil => simp
      | cons x l ih => rw [List.flatMap_cons, List.length_append, ih, List.length_map, List.length_range, List.length_cons, Nat.succ_mul, Nat.add_comm]
    show ((boxL F B s).flatMap _).length = szT F B s * _
    rw [this, boxL_len s]
theorem boxL_ne {B : Nat → F.R} : ∀ (s : Nat), s ≤ F.n → (boxL F B s).Pairwise fun x y => x ≠ y
  | 0, _ => by show List.Pairwise _ [_]; exact List.pairwise_singleton _ _
  | s + 1, hs => by
    have key : ∀ l : List F.R, (∀ x ∈ l, ∀ t, s ≤ t → NF.co x t = 0) → (l.Pairwise fun x y => x ≠ y) → (l.flatMap fun x => (List.range (NF.co (B s) s).toNat).map fun a : Nat => x + ((a : Int) : F.R) * F.e s).Pairwise fun x y => x ≠ y := by
      intro l
      induction l with
      | nil => intro _ _; exact List.Pairwise.nil
      | cons x l ih =>
        intro h0 hp
        obtain ⟨p1, p2⟩ := List.pairwise_cons.mp hp
        rw [List.flatMap_cons, List.pairwise_append]
        refine ⟨?_, ih (fun y hy => h0 y (List.mem_cons_of_mem _ hy)) p2, ?_⟩
        · rw [List.pairwise_map]
          exact List.nodup_range.imp fun {a b} q z => q (by
            have z := congrArg (fun w => NF.co w s) z
            simp only [NF.co_add, NF.co_int_mul, NF.co_e (show s < F.n by omega), if_pos] at z
            omega)
        · intro a ha b hb z
          obtain ⟨i, hi, rfl⟩ := List.mem_map.mp ha
          obtain ⟨y, hy, hb⟩ := List.mem_flatMap.mp hb
          obtain ⟨j, hj, rfl⟩ := List.mem_map.mp hb
          refine p1 y hy (NF.ext fun t ht => ?_)
          by_cases e : s ≤ t
          · rw [h0 x List.mem_cons_self t e, h0 y (List.mem_cons_of_mem _ hy) t e]
          · have z := congrArg (fun w => NF.co w t) z
            simp only [NF.co_add, NF.co_int_mul, NF.co_e (show s < F.n by omega), if_neg (show ¬ t = s by omega)] at z
            omega
    exact key _ (fun x hx => (boxL_in s (by omega) x hx).2) (boxL_ne s (by omega))
/-- as many rests as the product of the corners -/
theorem ix_tb {B : Nat → F.R} (hB : Tb F B) : Ix (Sp (Rw B)) (fun _ => True) (szT F B F.n) := by
  refine ⟨boxL F B F.n, boxL_len _, fun _ _ => True.intro, ?_, fun x _ => ?_⟩
  · have hin := boxL_in (B := B) F.n (Nat.le_refl _)
    have hp := boxL_ne (B := B) F.n (Nat.le_refl _)
    generalize boxL F B F.n = l at hin hp
    induction hp with
    | nil => exact List.Pairwise.nil
    | @cons x l p1 p2 ih =>
      refine List.Pairwise.cons (fun y hy z => ?_) (ih fun y hy => hin y (List.mem_cons_of_mem _ hy))
      refine p1 y hy ?_
      have z := Mem.small ((mem_iff hB).mp z) fun t ht => by
        have a := (hin x List.mem_cons_self).1 t ht
        have b := (hin y (List.mem_cons_of_mem _ hy)).1 t ht
        rw [NF.co_sub]
        constructor <;> omega
      rw [show x = x - y + y by grind, z]; grind
  · obtain ⟨y, h1, h2, h3⟩ := tb_rest (S := Sp (Rw B)) (Sp.is _) hB (fun i hi => Sp.of ⟨i, hi, rfl⟩) F.n (Nat.le_refl _) x
    exact ⟨y, boxL_all F.n (Nat.le_refl _) y h2 (fun t ht => NF.co_out y ht), h1⟩
end
end T
set_option maxRecDepth 100000
set_option maxHeartbeats 4000000
namespace T
open PySem PySem.Spec PyProof.Rows L2
/-! ### the pairing by the top place -/
section
variable {F : NF}
noncomputable def tau (x : F.R) : Int := NF.co x (F.n - 1)
theorem tau_add (x y : F.R) : tau (x + y) = tau x + tau y := NF.co_add ..
theorem tau_sub (x y : F.R) : tau (x - y) = tau x - tau y := NF.co_sub ..
theorem tau_int (c : Int) (x : F.R) : tau ((c : F.R) * x) = c * tau x := NF.co_int_mul ..
theorem tau_zero : tau (0 : F.R) = 0 := NF.co_zero _
theorem NF.lo_mul_e {x : F.R} {j : Nat} (hj : j < F.n) (h : ∀ t, F.n - j ≤ t → NF.co x t = 0) : NF.lo (x * F.e j) = PZ.xp j * NF.lo x := by
  have e : x * F.e j = F.cl (PZ.xp j * NF.lo x) := by
    show x * F.cl (PZ.xp j) = _
    rw [NF.cl_mul, NF.cl_lo]; grind
  rw [e]
  refine NF.lo_mk fun t ht => ?_
  rw [PZ.co_xp, if_pos (by omega)]
  exact h (t - j) (by omega)
theorem tau_e {x : F.R} {j : Nat} (hj : j < F.n) (h : ∀ t, F.n - j ≤ t → NF.co x t = 0) : tau (x * F.e j) = NF.co x (F.n - 1 - j) := by
  unfold tau NF.co
  rw [NF.lo_mul_e hj h, PZ.co_xp, if_pos (by omega)]
/-- what the pairing can't tell from nought -/
theorem tau_dvp {m : Int} {x : F.R} (h : ∀ j, j < F.n → m ∣ tau (x * F.e j)) : ∀ t, m ∣ NF.co x t := by
  have : ∀ k, k ≤ F.n → ∀ t, F.n - k ≤ t → m ∣ NF.co x t := by
    intro k
    induction k with
    | zero => intro _ t ht; rw [NF.co_out x (by omega)]; exact Int.dvd_zero _
    | succ k ih =>
      intro hk t ht
      by_cases e : F.n - k ≤ t
      · exact ih (by omega) t e
      · have et : t = F.n - 1 - k := by omega
        have hd : NF.Dvp m (x - NF.part x (F.n - k)) := fun s => by
          rw [NF.co_sub, NF.co_part x _ (by omega)]
          by_cases es : s < F.n - k
          · rw [if_pos es, Int.sub_self]; exact Int.dvd_zero _
          · rw [if_neg es, Int.sub_zero]; exact ih (by omega) s (by omega)
        obtain ⟨y, hy⟩ := NF.dvp_iff.mp hd
        have hx : x * F.e k = NF.part x (F.n - k) * F.e k + (m : F.R) * (y * F.e k) := by
          rw [show x = NF.part x (F.n - k) + (m : F.R) * y by rw [← hy]; grind]; grind
        have h1 := h k (by omega)
        rw [hx, tau_add, tau_int, tau_e (by omega) (fun s hs => by rw [NF.co_part x _ (by omega), if_neg (by omega)]), NF.co_part x _ (by omega), if_pos (by omega)] at h1
        rw [et]
        exact (Int.dvd_add_left ⟨_, rfl⟩).mp h1
  intro t
  by_cases ht : t < F.n
  · exact this F.n (Nat.le_refl _) t (by omega)
  · rw [NF.co_out x (by omega)]; exact Int.dvd_zero _
/-- any values are told by a number -/
theorem tau_ex (c : Nat → Int) : ∃ b : F.R, ∀ j, j < F.n → tau (b * F.e j) = c j := by
  have : ∀ k, k ≤ F.n → ∃ b : F.R, ∀ j, j < k → tau (b * F.e j) = c j := by
    intro k
    induction k with
    | zero => intro _; exact ⟨0, fun j hj => absurd hj (by omega)⟩
    | succ k ih =>
      intro hk
      obtain ⟨b, hb⟩ := ih (by omega)
      refine ⟨b + ((c k - tau (b * F.e k) : Int) : F.R) * F.e (F.n - 1 - k), fun j hj => ?_⟩
      have z : tau (F.e (F.n - 1 - k) * F.e j) = if j = k then 1 else 0 := by
        rw [tau_e (by omega) fun t ht => by rw [NF.co_e (by omega), if_neg (by omega)], NF.co_e (by omega)]
        by_cases e : j = k
        · rw [if_pos (by omega), if_pos e]
        · rw [if_neg (by omega), if_neg e]
      rw [show (b + ((c k - tau (b * F.e k) : Int) : F.R) * F.e (F.n - 1 - k)) * F.e j = b * F.e j + ((c k - tau (b * F.e k) : Int) : F.R) * (F.e (F.n - 1 - k) * F.e j) by grind, tau_add, tau_int, z]
      by_cases e : j = k
      · subst e; rw [if_pos rfl]; omega
      · rw [if_neg e, hb j (by omega)]; omega
  exact this F.n (Nat.le_refl _)
/-! ### sums by a table -/
def isum (g : Nat → Int) : Nat → Int
  | 0 => 0
  | s + 1 => isum g s + g s
def lc (a : Nat → Int) (B : Nat → F.R) : Nat → F.R
  | 0 => 0
  | s + 1 => lc a B s + (a s : F.R) * B s
theorem lc_congr {a b : Nat → Int} {B : Nat → F.R} : ∀ {s : Nat}, (∀ i, i < s → a i = b i) → lc a B s = lc b B s
  | 0, _ => rfl
  | s + 1, h => by show lc a B s + _ = lc b B s + _; rw [lc_congr fun i hi => h i (by omega), h s (by omega)]
theorem lc_mul (a : Nat → Int) (B : Nat → F.R) (z : F.R) : ∀ s, lc a B s * z = lc a (fun i => B i * z) s
  | 0 => by show (0 : F.R) * z = 0; grind
  | s + 1 => by show (lc a B s + _) * z = lc a _ s + _; rw [← lc_mul a B z s]; grind
theorem lc_in {S : F.R → Prop} (hS : IsSub S) {B : Nat → F.R} (a : Nat → Int) : ∀ {s}, (∀ i, i < s → S (B i)) → S (lc a B s)
  | 0, _ => hS.zero
  | s + 1, h => hS.add (lc_in hS a fun i hi => h i (by omega)) (hS.int (h s (by omega)) _)
theorem lc_sub (a b : Nat → Int) (B : Nat → F.R) : ∀ s, lc a B s - lc b B s = lc (fun i => a i - b i) B s
  | 0 => by show (0 : F.R) - 0 = 0; grind
  | s + 1 => by show (lc a B s + _) - (lc b B s + _) = lc _ B s + _; rw [← lc_sub a b B s]; grind
theorem lc_int (c : Int) (a : Nat → Int) (B : Nat → F.R) : ∀ s, (c : F.R) * lc a B s = lc (fun i => c * a i) B s
  | 0 => by show (c : F.R) * 0 = 0; grind
  | s + 1 => by show (c : F.R) * (lc a B s + _) = lc _ B s + _; rw [← lc_int c a B s]; grind
theorem Sp.lc {B : Nat → F.R} {x : F.R} (h : Sp (Rw B) x) : ∃ a, x = T.lc a B F.n := by
  refine h.le (S := fun x => ∃ a, x = T.lc a B F.n) ⟨⟨fun _ => 0, ?_⟩, fun {x y} ⟨a, ha⟩ ⟨b, hb⟩ => ⟨fun i => a i - b i, by rw [ha, hb, lc_sub]⟩⟩ fun g ⟨i, hi, e⟩ => ⟨fun j => if j = i then 1 else 0, ?_⟩
  · have : ∀ s, T.lc (fun _ => 0) B s = 0 := fun s => by
      induction s with
      | zero => rfl
      | succ s ih => show T.lc _ B s + _ = _; rw [ih]; grind
    exact (this _).symm
  · have : ∀ s, T.lc (fun j => if j = i then 1 else 0) B s = if i < s then B i else 0 := fun s => by
      induction s with
      | zero => rfl
      | succ s ih =>
        show T.lc _ B s + _ = _
        rw [ih]
        by_cases e : s = i
        · subst e; rw [if_neg (by omega), if_pos (by omega)]
          show (0 : F.R) + ((if s = s then 1 else 0 : Int) : F.R) * B s = B s
          rw [if_pos rfl]; grind
        · show _ + ((if s = i then 1 else 0 : Int) : F.R) * B s = _
          rw [if_neg e]
          by_cases e2 : i < s
          · rw [if_pos e2, if_pos (by omega)]; grind
          · rw [if_neg e2, if_neg (by omega)]; grind
    rw [this, if_pos hi, e]
/-- the rows of a table are free -/
theorem lc_zero {a : Nat → Int} {B : Nat → F.R} (hB : Tb F B) : ∀ {s : Nat}, s ≤ F.n → lc a B s = 0 → ∀ i, i < s → a i = 0
  | 0, _, _, i, hi => absurd hi (by omega)
  | s + 1, hs, h, i, hi => by
    have low : ∀ s t, s ≤ t → s ≤ F.n → NF.co (lc a B s) t = 0 := by
      intro s
      induction s with
      | zero => intro t _ _; exact NF.co_zero t
      | succ s ih =>
        intro t ht hs
        show NF.co (lc a B s + _) t = 0
        rw [NF.co_add, NF.co_int_mul, ih t (by omega) (by omega), hB.up s t (by omega) (by omega)]
        omega
    have h1 := congrArg (fun z => NF.co z s) h
    have h1 : NF.co (lc a B s + (a s : F.R) * B s) s = NF.co (0 : F.R) s := h1
    rw [NF.co_add, NF.co_int_mul, low s s (Nat.le_refl _) (by omega), NF.co_zero, Int.zero_add] at h1
    have hp := hB.pos s (by omega)
    have as : a s = 0 := by
      rcases Int.mul_eq_zero.mp h1 with e | e
      · exact e
      · omega
    by_cases e : i = s
    · rw [e]; exact as
    · refine lc_zero hB (s := s) (by omega) ?_ i (by omega)
      have h : lc a B s + (a s : F.R) * B s = 0 := h
      rw [as] at h
      rw [← h]; grind
theorem lc_uniq {a b : Nat → Int} {B : Nat → F.R} (hB : Tb F B) (h : lc a B F.n = lc b B F.n) : ∀ i, i < F.n → a i = b i := fun i hi => by
  have := lc_zero hB (s := F.n) (Nat.le_refl _) (by rw [← lc_sub a b, h]; grind) i hi
  omega
/-! ### ideals -/
structure IsId (S : F.R → Prop) : Prop extends IsSub S where
  turn : ∀ {x}, S x → S (F.cl PZ.X * x)
theorem IsId.mul {S : F.R → Prop} (h : IsId S) {x : F.R} (hx : S x) (a : F.R) : S (a * x) := by
  have he : ∀ i, S (F.e i * x) := fun i => by
    induction i with
    | zero => rw [NF.e_zero, show (1 : F.R) * x = x by grind]; exact hx
    | succ i ih => rw [NF.e_succ, show F.cl PZ.X * F.e i * x = F.cl PZ.X * (F.e i * x) by grind]; exact h.turn ih
  refine IsSub.all (S := fun a => S (a * x)) ⟨by rw [show (0 : F.R) * x = 0 by grind]; exact h.zero, fun {a b} ha hb => ?_⟩ (fun i _ => he i) a
  rw [show (a - b) * x = a * x - b * x by grind]
  exact h.sub ha hb
theorem IsId.all {S : F.R → Prop} (h : IsId S) (h1 : S 1) (x : F.R) : S x := by
  have := h.mul h1 x
  rwa [show x * 1 = x by grind] at this
theorem isId_of {S : F.R → Prop} (h : IsSub S) (hm : ∀ a x, S x → S (a * x)) : IsId S := ⟨h, fun hx => hm _ _ hx⟩
/-- the products of two -/
def Pd (I J : F.R → Prop) (z : F.R) : Prop := ∃ x y, I x ∧ J y ∧ z = x * y
def Pr (I J : F.R → Prop) : F.R → Prop := Sp (Pd I J)
theorem Pr.of {I J : F.R → Prop} {x y : F.R} (hx : I x) (hy : J y) : Pr I J (x * y) := Sp.of ⟨x, y, hx, hy, rfl⟩
theorem Pr.id {I J : F.R → Prop} (hI : IsId I) : IsId (Pr I J) := by
  refine isId_of (Sp.is _) fun a x hx => ?_
  refine hx.le (S := fun x => Pr I J (a * x)) ⟨by show Pr I J (a * 0); rw [show a * (0 : F.R) = 0 by grind]; exact (Sp.is _).zero, fun {x y} h1 h2 => ?_⟩ fun g ⟨u, v, hu, hv, e⟩ => ?_
  · show Pr I J (a * (x - y))
    rw [show a * (x - y) = a * x - a * y by grind]
    exact (Sp.is _).sub h1 h2
  · show Pr I J (a * g)
    rw [e, show a * (u * v) = (a * u) * v by grind]
    exact Pr.of (hI.mul hu a) hv
theorem Pr.comm {I J : F.R → Prop} {x : F.R} (h : Pr I J x) : Pr J I x := Sp.mono (fun g ⟨u, v, hu, hv, e⟩ => by rw [e, show u * v = v * u by grind]; exact Pr.of hv hu) h
theorem Pr.mono {I J I' J' : F.R → Prop} (hI : ∀ x, I x → I' x) (hJ : ∀ x, J x → J' x) {x : F.R} (h : Pr I J x) : Pr I' J' x := Sp.mono (fun g ⟨u, v, hu, hv, e⟩ => by rw [e]; exact Pr.of (hI u hu) (hJ v hv)) h
theorem Pr.le {I J S : F.R → Prop} (hS : IsSub S) (h : ∀ x y, I x → J y → S (x * y)) {z : F.R} (hz : Pr I J z) : S z := Sp.le hS (fun g ⟨u, v, hu, hv, e⟩ => e ▸ h u v hu hv) hz
theorem Pr.assoc {I J K : F.R → Prop} {x : F.R} (h : Pr (Pr I J) K x) : Pr I (Pr J K) x := by
  refine Pr.le (Sp.is _) (fun z w hz hw => ?_) h
  refine Pr.le (S := fun z => Pr I (Pr J K) (z * w)) ⟨by show Pr I _ (0 * w); rw [show (0 : F.R) * w = 0 by grind]; exact (Sp.is _).zero, fun {x y} h1 h2 => ?_⟩ (fun u v hu hv => ?_) hz
  · show Pr I _ ((x - y) * w)
    rw [show (x - y) * w = x * w - y * w by grind]
    exact (Sp.is _).sub h1 h2
  · show Pr I _ (u * v * w)
    rw [show u * v * w = u * (v * w) by grind]
    exact Pr.of hu (Pr.of hv hw)
theorem Pr.assoc' {I J K : F.R → Prop} {x : F.R} (h : Pr I (Pr J K) x) : Pr (Pr I J) K x :=
  (Pr.assoc (Pr.mono (fun _ h => h) (fun _ h => h) h.comm |> fun h => (Pr.mono (fun _ z => Pr.comm z) (fun _ z => z) h : Pr (Pr K J) I x))).comm |> fun h => Pr.mono (fun _ z => Pr.comm z) (fun _ z => z) h
/-- all multiples of m -/
abbrev Mm (F : NF) (m : Int) : F.R → Prop := fun x => NF.Dvp m x
theorem mm_is (m : Int) : IsId (Mm F m) := by
  refine isId_of ⟨fun t => by rw [NF.co_zero]; exact Int.dvd_zero _, fun {x y} hx hy t => by rw [NF.co_sub]; exact Int.dvd_sub (hx t) (hy t)⟩ fun a x hx => ?_
  obtain ⟨y, rfl⟩ := NF.dvp_iff.mp hx
  exact NF.dvp_iff.mpr ⟨a * y, by grind⟩
theorem mm_int (m : Int) (x : F.R) : Mm F m ((m : F.R) * x) := NF.dvp_iff.mpr ⟨x, rfl⟩
/-! ### the dual -/
def Du (m : Int) (J : F.R → Prop) (y : F.R) : Prop := ∀ x, J x → NF.Dvp m (x * y)
theorem Du.is (m : Int) (J : F.R → Prop) : IsId (Du m J) := by
  refine isId_of ⟨fun x _ => by rw [show x * (0 : F.R) = 0 by grind]; exact (mm_is m).zero, fun {a b} ha hb x hx => ?_⟩ fun a y hy x hx => ?_
  · rw [show x * (a - b) = x * a - x * b by grind]; exact (mm_is m).sub (ha x hx) (hb x hx)
  · rw [show x * (a * y) = a * (x * y) by grind]; exact (mm_is m).mul (hy x hx) a
theorem Du.m (m : Int) (J : F.R → Prop) : Du m J (m : F.R) := fun x _ => NF.dvp_iff.mpr ⟨x, by grind⟩
theorem du_tau {m : Int} {J : F.R → Prop} (hJ : IsId J) {y : F.R} (h : ∀ x, J x → m ∣ tau (x * y)) : Du m J y := fun x hx => tau_dvp fun j _ => by
  rw [show x * y * F.e j = (F.e j * x) * y by grind]
  exact h _ (hJ.mul hx _)
/-- the numbers that belong to the rows of a table -/
structure Dual (m : Int) (B β : Nat → F.R) : Prop where
  ex : ∀ x : F.R, (m : F.R) * x = lc (fun i => tau (β i * x)) B F.n
theorem dual_ex {J : F.R → Prop} {m : Int} {B : Nat → F.R} (hJ : ∀ x, J x ↔ Sp (Rw B) x) (hm : ∀ x, J ((m : F.R) * x)) : ∃ β, Dual m B β := by
  have h1 : ∀ k, ∃ U : Nat → Int, (m : F.R) * F.e k = lc U B F.n := fun k => Sp.lc ((hJ _).mp (hm _))
  have h1 : ∃ U : Nat → Nat → Int, ∀ k, (m : F.R) * F.e k = lc (U k) B F.n := ⟨fun k => Classical.choose (h1 k), fun k => Classical.choose_spec (h1 k)⟩
  obtain ⟨U, hU⟩ := h1
  have h2 : ∀ i, ∃ b : F.R, ∀ k, k < F.n → tau (b * F.e k) = U k i := fun i => tau_ex fun k => U k i
  have h2 : ∃ β : Nat → F.R, ∀ i k, k < F.n → tau (β i * F.e k) = U k i := ⟨fun i => Classical.choose (h2 i), fun i => Classical.choose_spec (h2 i)⟩
  obtain ⟨β, hβ⟩ := h2
  refine ⟨β, ⟨fun x => IsSub.all (S := fun x => (m : F.R) * x = lc (fun i => tau (β i * x)) B F.n) ⟨?_, fun {x y} hx hy => ?_⟩ (fun k hk => ?_) x⟩⟩
  · show (m : F.R) * 0 = lc (fun i => tau (β i * 0)) B F.n
    rw [lc_congr (b := fun i => (0 : Int) * 0) fun i _ => by rw [show β i * (0 : F.R) = 0 by grind, tau_zero]; rfl, ← lc_int]
    grind
  · show (m : F.R) * (x - y) = lc (fun i => tau (β i * (x - y))) B F.n
    have hx : (m : F.R) * x = lc (fun i => tau (β i * x)) B F.n := hx
    have hy : (m : F.R) * y = lc (fun i => tau (β i * y)) B F.n := hy
    rw [show (m : F.R) * (x - y) = (m : F.R) * x - (m : F.R) * y by grind, hx, hy, lc_sub]
    exact lc_congr fun i _ => by rw [show β i * (x - y) = β i * x - β i * y by grind, tau_sub]
  · show (m : F.R) * F.e k = lc (fun i => tau (β i * F.e k)) B F.n
    rw [hU k]
    exact lc_congr fun i _ => (hβ i k hk).symm
section
variable {J : F.R → Prop} {m : Int} {B β : Nat → F.R}
theorem Dual.row (hd : Dual m B β) (hB : Tb F B) {a : Nat → Int} {x : F.R} (hx : x = lc a B F.n) : ∀ i, i < F.n → tau (β i * x) = m * a i := by
  have h := hd.ex x
  have h2 : (m : F.R) * x = lc (fun i => m * a i) B F.n := by rw [hx, lc_int]
  exact lc_uniq hB (h.symm.trans h2)
theorem Dual.inn (hd : Dual m B β) (hm : m ≠ 0) (hJ : ∀ x, J x ↔ Sp (Rw B) x) {x : F.R} (h : ∀ i, i < F.n → m ∣ tau (β i * x)) : J x := by
  have e := hd.ex x
  have e2 : (m : F.R) * x = (m : F.R) * lc (fun i => tau (β i * x) / m) B F.n := by
    rw [e, lc_int]
    exact lc_congr fun i hi => (Int.mul_ediv_cancel' (h i hi)).symm
  rw [NF.int_cancel hm e2]
  exact (hJ _).mpr (lc_in (Sp.is _) _ fun i hi => Sp.of ⟨i, hi, rfl⟩)
theorem Dual.du (hd : Dual m B β) (hB : Tb F B) (hI : IsId J) (hJ : ∀ x, J x ↔ Sp (Rw B) x) {i : Nat} (hi : i < F.n) : Du m J (β i) := du_tau hI fun x hx => by
  obtain ⟨a, ha⟩ := Sp.lc ((hJ x).mp hx)
  rw [show x * β i = β i * x by grind, hd.row hB ha i hi]
  exact ⟨_, rfl⟩
end
theorem IsId.ints {J : F.R → Prop} (h : IsId J) {m : Int} (hm : J (m : F.R)) (x : F.R) : J ((m : F.R) * x) := by
  rw [show (m : F.R) * x = x * (m : F.R) by grind]; exact h.mul hm x
/-- the dual's dual -/
theorem du_du {J : F.R → Prop} {m : Int} (hI : IsId J) (hm : 0 < m) (hJ : J (m : F.R)) {z : F.R} (hz : Du m (Du m J) z) : J z := by
  obtain ⟨B, hB, hJB⟩ := tb_ex hI.toIsSub hm fun i _ => hI.ints hJ _
  obtain ⟨β, hd⟩ := dual_ex hJB (hI.ints hJ)
  refine hd.inn (by omega) hJB fun i hi => ?_
  exact hz (β i) (hd.du hB.toTb hI hJB hi) _
end
end T
set_option maxRecDepth 100000
set_option maxHeartbeats 4000000
namespace T
open PySem PySem.Spec PyProof.Rows L2
/-! ### any prime -/
section
variable {p : Int}
end
end T
set_option maxRecDepth 100000
set_option maxHeartbeats 8000000
namespace T
open PySem PySem.Spec PyProof.Rows L2
/-! ### a number that brings a lattice into a multiple of it -/
section
variable {α : Type} [Lean.Grind.CommRing α]
theorem ch2 (w a b c d x y : α) (h0 : w * x = a * x + b * y) (h1 : w * y = c * x + d * y) : (w * w - (a + d) * w + (a * d - b * c)) * x = 0 := by
  have e : (w * w - (a + d) * w + (a * d - b * c)) * x = (w - d) * (w * x - (a * x + b * y)) + b * (w * y - (c * x + d * y)) := by grind
  rw [e, h0, h1]; grind
def m2 (a b c d : α) : α := a * d - b * c
def m3 (a b c d e f g h i : α) : α := a * m2 e f h i - b * m2 d f g i + c * m2 d e g h
theorem ch3 (w a b c d e f g h i x y z : α) (h0 : w * x = a * x + b * y + c * z) (h1 : w * y = d * x + e * y + f * z) (h2 : w * z = g * x + h * y + i * z) :
    (w * (w * (w + -(a + e + i)) + (m2 a b d e + m2 a c g i + m2 e f h i)) + -(m3 a b c d e f g h i)) * x = 0 := by
  have k : (w * (w * (w + -(a + e + i)) + (m2 a b d e + m2 a c g i + m2 e f h i)) + -(m3 a b c d e f g h i)) * x = ((w - e) * (w - i) - f * h) * (w * x - (a * x + b * y + c * z)) + (b * (w - i) + c * h) * (w * y - (d * x + e * y + f * z)) + (b * f + c * (w - e)) * (w * z - (g * x + h * y + i * z)) := by
    unfold m3 m2; grind
  rw [k, h0, h1, h2]; grind
def m4 (a b c d e f g h i j k l m n o p : α) : α := a * m3 f g h j k l n o p - b * m3 e g h i k l m o p + c * m3 e f h i j l m n p - d * m3 e f g i j k m n o
theorem ch4 (w a b c d e f g h i j k l m n o p x y z v : α) (h0 : w * x = a * x + b * y + c * z + d * v) (h1 : w * y = e * x + f * y + g * z + h * v) (h2 : w * z = i * x + j * y + k * z + l * v) (h3 : w * v = m * x + n * y + o * z + p * v) :
    (w * (w * (w * (w + -(a + f + k + p)) + (m2 a b e f + m2 a c i k + m2 a d m p + m2 f g j k + m2 f h n p + m2 k l o p)) + -(m3 a b c e f g i j k + m3 a b d e f h m n p + m3 a c d i k l m o p + m3 f g h j k l n o p)) + m4 a b c d e f g h i j k l m n o p) * x = 0 := by
  have q : (w * (w * (w * (w + -(a + f + k + p)) + (m2 a b e f + m2 a c i k + m2 a d m p + m2 f g j k + m2 f h n p + m2 k l o p)) + -(m3 a b c e f g i j k + m3 a b d e f h m n p + m3 a c d i k l m o p + m3 f g h j k l n o p)) + m4 a b c d e f g h i j k l m n o p) * x
      = m3 (w - f) (-g) (-h) (-j) (w - k) (-l) (-n) (-o) (w - p) * (w * x - (a * x + b * y + c * z + d * v))
      - m3 (-b) (-c) (-d) (-j) (w - k) (-l) (-n) (-o) (w - p) * (w * y - (e * x + f * y + g * z + h * v))
      + m3 (-b) (-c) (-d) (w - f) (-g) (-h) (-n) (-o) (w - p) * (w * z - (i * x + j * y + k * z + l * v))
      - m3 (-b) (-c) (-d) (w - f) (-g) (-h) (-j) (w - k) (-l) * (w * v - (m * x + n * y + o * z + p * v)) := by
    unfold m4 m3 m2; grind
  rw [q, h0, h1, h2, h3]; grind
end
section
variable {F : NF}
theorem ic_add (a b : Int) : ((a + b : Int) : F.R) = (a : F.R) + (b : F.R) := by grind
theorem ic_mul (a b : Int) : ((a * b : Int) : F.R) = (a : F.R) * (b : F.R) := by grind
theorem ic_neg (a : Int) : ((-a : Int) : F.R) = -(a : F.R) := by grind
theorem ic_sub (a b : Int) : ((a - b : Int) : F.R) = (a : F.R) - (b : F.R) := by grind
theorem ic_m2 (a b c d : Int) : ((m2 a b c d : Int) : F.R) = m2 (a : F.R) b c d := by unfold m2; simp only [ic_sub, ic_mul]
theorem ic_m3 (a b c d e f g h i : Int) : ((m3 a b c d e f g h i : Int) : F.R) = m3 (a : F.R) b c d e f g h i := by unfold m3; simp only [ic_sub, ic_mul, ic_add, ic_m2]
theorem ic_m4 (a b c d e f g h i j k l m n o p : Int) : ((m4 a b c d e f g h i j k l m n o p : Int) : F.R) = m4 (a : F.R) b c d e f g h i j k l m n o p := by unfold m4; simp only [ic_sub, ic_mul, ic_add, ic_m3]
theorem m2_scale (q a b c d : Int) : m2 (q * a) (q * b) (q * c) (q * d) = q ^ 2 * m2 a b c d := by unfold m2; grind
theorem m3_scale (q a b c d e f g h i : Int) : m3 (q * a) (q * b) (q * c) (q * d) (q * e) (q * f) (q * g) (q * h) (q * i) = q ^ 3 * m3 a b c d e f g h i := by unfold m3 m2; grind
theorem m4_scale (q a b c d e f g h i j k l m n o p : Int) : m4 (q * a) (q * b) (q * c) (q * d) (q * e) (q * f) (q * g) (q * h) (q * i) (q * j) (q * k) (q * l) (q * m) (q * n) (q * o) (q * p) = q ^ 4 * m4 a b c d e f g h i j k l m n o p := by unfold m4 m3 m2; grind
theorem sh_ch (hi : F.Irr) (h2 : 2 ≤ F.n) (h4 : F.n ≤ 4) {B : Nat → F.R} (hB : Tb F B) {p : Int} {w : F.R} {M : Nat → Nat → Int} (h : ∀ i, i < F.n → w * B i = (p : F.R) * lc (M i) B F.n) : ∃ O, Fall p O ∧ 2 ≤ O.length ∧ hev O w = 0 := by
  have b0 : B 0 ≠ 0 := fun z => by
    have := hB.pos 0 (by omega)
    rw [z, NF.co_zero] at this; omega
  have nz : ∀ {a : F.R}, a * B 0 = 0 → a = 0 := fun e => (NF.domain hi e).resolve_right b0
  have hn : F.n = 2 ∨ F.n = 3 ∨ F.n = 4 := by omega
  rcases hn with e | e | e
  · rw [e] at h
    have r0 := h 0 (by omega)
    have r1 := h 1 (by omega)
    simp only [lc] at r0 r1
    have k := nz (ch2 w ((p * M 0 0 : Int) : F.R) ((p * M 0 1 : Int) : F.R) ((p * M 1 0 : Int) : F.R) ((p * M 1 1 : Int) : F.R) (B 0) (B 1) (by rw [r0]; simp only [ic_mul]; grind) (by rw [r1]; simp only [ic_mul]; grind))
    refine ⟨[p ^ 2 * m2 (M 0 0) (M 0 1) (M 1 0) (M 1 1), p ^ 1 * -(M 0 0 + M 1 1), 1], ⟨⟨_, rfl⟩, ⟨_, rfl⟩, rfl⟩, by simp, ?_⟩
    rw [← k, ← m2_scale]
    clear k r0 r1 h
    simp only [hev, ic_m2, m2, ic_mul, ic_neg, ic_add, ic_sub]
    grind
  · rw [e] at h
    have r0 := h 0 (by omega)
    have r1 := h 1 (by omega)
    have r2 := h 2 (by omega)
    simp only [lc] at r0 r1 r2
    have k := nz (ch3 w ((p * M 0 0 : Int) : F.R) ((p * M 0 1 : Int) : F.R) ((p * M 0 2 : Int) : F.R) ((p * M 1 0 : Int) : F.R) ((p * M 1 1 : Int) : F.R) ((p * M 1 2 : Int) : F.R) ((p * M 2 0 : Int) : F.R) ((p * M 2 1 : Int) : F.R) ((p * M 2 2 : Int) : F.R) (B 0) (B 1) (B 2)
      (by rw [r0]; simp only [ic_mul]; grind) (by rw [r1]; simp only [ic_mul]; grind) (by rw [r2]; simp only [ic_mul]; grind))
    refine ⟨[p ^ 3 * -m3 (M 0 0) (M 0 1) (M 0 2) (M 1 0) (M 1 1) (M 1 2) (M 2 0) (M 2 1) (M 2 2), p ^ 2 * (m2 (M 0 0) (M 0 1) (M 1 0) (M 1 1) + m2 (M 0 0) (M 0 2) (M 2 0) (M 2 2) + m2 (M 1 1) (M 1 2) (M 2 1) (M 2 2)), p ^ 1 * -(M 0 0 + M 1 1 + M 2 2), 1], ⟨⟨_, rfl⟩, ⟨_, rfl⟩, ⟨_, rfl⟩, rfl⟩, by simp, ?_⟩
    rw [← k, Int.mul_neg, ← m3_scale, Int.mul_add, Int.mul_add, ← m2_scale, ← m2_scale, ← m2_scale]
    clear k r0 r1 r2 h
    simp only [hev, ic_m3, ic_m2, ic_neg, ic_add, ic_mul]
    grind
  · rw [e] at h
    have r0 := h 0 (by omega)
    have r1 := h 1 (by omega)
    have r2 := h 2 (by omega)
    have r3 := h 3 (by omega)
    simp only [lc] at r0 r1 r2 r3
    have k := nz (ch4 w ((p * M 0 0 : Int) : F.R) ((p * M 0 1 : Int) : F.R) ((p * M 0 2 : Int) : F.R) ((p * M 0 3 : Int) : F.R) ((p * M 1 0 : Int) : F.R) ((p * M 1 1 : Int) : F.R) ((p * M 1 2 : Int) : F.R) ((p * M 1 3 : Int) : F.R) ((p * M 2 0 : Int) : F.R) ((p * M 2 1 : Int) : F.R) ((p * M 2 2 : Int) : F.R) ((p * M 2 3 : Int) : F.R) ((p * M 3 0 : Int) : F.R) ((p * M 3 1 : Int) : F.R) ((p * M 3 2 : Int) : F.R) ((p * M 3 3 : Int) : F.R) (B 0) (B 1) (B 2) (B 3)
      (by rw [r0]; simp only [ic_mul]; grind) (by rw [r1]; simp only [ic_mul]; grind) (by rw [r2]; simp only [ic_mul]; grind) (by rw [r3]; simp only [ic_mul]; grind))
    refine ⟨[p ^ 4 * m4 (M 0 0) (M 0 1) (M 0 2) (M 0 3) (M 1 0) (M 1 1) (M 1 2) (M 1 3) (M 2 0) (M 2 1) (M 2 2) (M 2 3) (M 3 0) (M 3 1) (M 3 2) (M 3 3),
      p ^ 3 * -(m3 (M 0 0) (M 0 1) (M 0 2) (M 1 0) (M 1 1) (M 1 2) (M 2 0) (M 2 1) (M 2 2) + m3 (M 0 0) (M 0 1) (M 0 3) (M 1 0) (M 1 1) (M 1 3) (M 3 0) (M 3 1) (M 3 3) + m3 (M 0 0) (M 0 2) (M 0 3) (M 2 0) (M 2 2) (M 2 3) (M 3 0) (M 3 2) (M 3 3) + m3 (M 1 1) (M 1 2) (M 1 3) (M 2 1) (M 2 2) (M 2 3) (M 3 1) (M 3 2) (M 3 3)),
      p ^ 2 * (m2 (M 0 0) (M 0 1) (M 1 0) (M 1 1) + m2 (M 0 0) (M 0 2) (M 2 0) (M 2 2) + m2 (M 0 0) (M 0 3) (M 3 0) (M 3 3) + m2 (M 1 1) (M 1 2) (M 2 1) (M 2 2) + m2 (M 1 1) (M 1 3) (M 3 1) (M 3 3) + m2 (M 2 2) (M 2 3) (M 3 2) (M 3 3)), p ^ 1 * -(M 0 0 + M 1 1 + M 2 2 + M 3 3), 1], ⟨⟨_, rfl⟩, ⟨_, rfl⟩, ⟨_, rfl⟩, ⟨_, rfl⟩, rfl⟩, by simp, ?_⟩
    rw [← k, Int.mul_neg, ← m4_scale, Int.mul_add, Int.mul_add, Int.mul_add, ← m3_scale, ← m3_scale, ← m3_scale, ← m3_scale, Int.mul_add, Int.mul_add, Int.mul_add, Int.mul_add, Int.mul_add, ← m2_scale, ← m2_scale, ← m2_scale, ← m2_scale, ← m2_scale, ← m2_scale]
    clear k r0 r1 r2 r3 h
    simp only [hev, ic_m4, ic_m3, ic_m2, ic_neg, ic_add, ic_mul]
    grind
/-- a ring that is whole at each prime -/
structure Whole (F : NF) : Prop where
  irr : F.Irr
  two : 2 ≤ F.n
  four : F.n ≤ 4
  at_ : ∀ p, PrI p → WholeAt F p
theorem Whole.shrink (hw : Whole F) {L : F.R → Prop} (hL : IsSub L) {m0 : Int} (hm0 : 0 < m0) (h0 : ∀ x, L ((m0 : F.R) * x)) : ∀ (N : Nat) (M : Int), M.natAbs ≤ N → M ≠ 0 → ∀ w : F.R, (∀ y, L y → ∃ y', L y' ∧ w * y = (M : F.R) * y') → NF.Dvp M w
  | 0, M, hN, hM, _, _ => by omega
  | N + 1, M, hN, hM, w, h => by
    by_cases h1 : M.natAbs = 1
    · intro t; exact Int.natAbs_dvd_natAbs.mp (by rw [h1]; exact Nat.one_dvd _)
    obtain ⟨p, hp, M', rfl⟩ := prime_div hM h1
    obtain ⟨B, hB, hLB⟩ := tb_ex hL hm0 fun i _ => h0 _
    have rows : ∀ i, ∃ a : Nat → Int, i < F.n → w * B i = (p : F.R) * lc a B F.n := fun i => by
      by_cases hi : i < F.n
      · obtain ⟨y', hy', e⟩ := h (B i) ((hLB _).mpr (Sp.of ⟨i, hi, rfl⟩))
        obtain ⟨a, ha⟩ := Sp.lc ((hLB _).mp (hL.int hy' M'))
        exact ⟨a, fun _ => by rw [e, ← ha, ic_mul]; grind⟩
      · exact ⟨fun _ => 0, fun z => absurd z hi⟩
    obtain ⟨O, h3, h4, h5⟩ := sh_ch hw.irr hw.two hw.four hB.toTb (p := p) (w := w) (M := fun i => Classical.choose (rows i)) (fun i hi => Classical.choose_spec (rows i) hi)
    have hd := whole_at hw.irr (hw.at_ p hp) h3 h4 h5
    obtain ⟨w', rfl⟩ := NF.dvp_iff.mp hd
    have p1 := hp.1
    have hM' : M' ≠ 0 := fun z => hM (by rw [z, Int.mul_zero])
    have hlt : M'.natAbs < (p * M').natAbs := by
      rw [Int.natAbs_mul]
      have : 2 * M'.natAbs ≤ p.natAbs * M'.natAbs := Nat.mul_le_mul_right _ (by omega)
      omega
    have hd' := hw.shrink hL hm0 h0 N M' (by omega) hM' w' fun y hy => by
      obtain ⟨y', hy', e⟩ := h y hy
      refine ⟨y', hy', NF.int_cancel (c := p) (by omega) ?_⟩
      rw [show (p : F.R) * (w' * y) = (p : F.R) * w' * y by grind, e, ic_mul]; grind
    obtain ⟨w'', rfl⟩ := NF.dvp_iff.mp hd'
    exact NF.dvp_iff.mpr ⟨w'', by rw [ic_mul]; grind⟩
/-- an ideal times its dual is all multiples of m -/
theorem Whole.inv (hw : Whole F) {J : F.R → Prop} (hJ : IsId J) {m : Int} (hm : 0 < m) (hmJ : J (m : F.R)) (z : F.R) : Pr J (Du m J) z ↔ NF.Dvp m z := by
  have hK : IsId (Pr J (Du m J)) := Pr.id hJ
  constructor
  · exact Pr.le (mm_is m).toIsSub fun x y hx hy => hy x hx
  · intro hz
    obtain ⟨x, rfl⟩ := NF.dvp_iff.mp hz
    have hmm : 0 < m * m := Int.mul_pos hm hm
    refine du_du hK hmm (by rw [ic_mul]; exact Pr.of hmJ (Du.m m J)) fun w hw' => ?_
    have hwm : NF.Dvp m w := hw.shrink (Du.is m J).toIsSub hm (fun x => (Du.is m J).ints (Du.m m J) x) m.natAbs m (Nat.le_refl _) (by omega) w fun y hy => by
      have h1 := hw' ((m : F.R) * y) (Pr.of hmJ hy)
      obtain ⟨y', e⟩ := NF.dvp_iff.mp h1
      have e2 : w * y = (m : F.R) * y' := NF.int_cancel (c := m) (by omega) (by
        rw [show (m : F.R) * (w * y) = (m : F.R) * y * w by grind, e, ic_mul]; grind)
      refine ⟨y', fun x hx => ?_, e2⟩
      have h2 := hw' (x * y) (Pr.of hx hy)
      obtain ⟨u, e3⟩ := NF.dvp_iff.mp h2
      refine NF.dvp_iff.mpr ⟨u, NF.int_cancel (c := m) (by omega) ?_⟩
      rw [show (m : F.R) * ((m : F.R) * u) = ((m * m : Int) : F.R) * u by rw [ic_mul]; grind, ← e3, show x * y * w = x * (w * y) by grind, e2]; grind
    obtain ⟨v, rfl⟩ := NF.dvp_iff.mp hwm
    exact NF.dvp_iff.mpr ⟨v * x, by rw [ic_mul]; grind⟩
end
end T
set_option maxRecDepth 100000
set_option maxHeartbeats 4000000
namespace T
open PySem PySem.Spec PyProof.Rows L2
/-! ### the program's stair tables -/
section
variable {F : NF}
end
section
variable {F : NF}
/-! ### one row more -/
def tv (F : NF) (T : List (List Int)) (i : Nat) : F.R := F.vec (T.getD i [])
theorem co_snoc {l : List Int} {i : Nat} (hl : l.length = i) (a : Int) (t : Nat) : co (l ++ [a]) t = if t = i then a else co l t := by
  by_cases e : t < i
  · rw [if_neg (by omega)]; unfold co; rw [List.getElem?_append_left (by omega)]
  · by_cases e2 : t = i
    · rw [if_pos e2, e2]; unfold co; rw [List.getElem?_append_right (by omega), hl, Nat.sub_self]; rfl
    · rw [if_neg e2, co_out (by simp; omega), co_out (by omega)]
end
end T
set_option maxRecDepth 100000
set_option maxHeartbeats 4000000
namespace T
open PySem PySem.Spec PyProof.Rows L2
section
variable {F : NF}
/-! ### places ahead of the corners -/
/-! ### the stair table of some rows -/
end
end T
set_option maxRecDepth 100000
set_option maxHeartbeats 4000000
namespace T
open PySem PySem.Spec PyProof.Rows L2
/-! ### the law's stair tables -/
section
variable {F : NF}
/-! ### places ahead of the corners -/
structure Dl (F : NF) (m : Int) (T : List (List Int)) (s : Nat) (R : List (List Int)) : Prop where
  len : R.length = F.n
  row : ∀ i, i < F.n → (R.getD i []).length = F.n ∧ 0 < co (R.getD i []) i ∧ (∀ t, i < t → co (R.getD i []) t = 0) ∧ ∀ t, 0 ≤ co (R.getD i []) t ∧ co (R.getD i []) t ≤ m
  red : ∀ i, i < s → ∀ t, t < i → co (R.getD i []) t < co (R.getD t []) t
  held : ∀ S : F.R → Prop, IsSub S → ((∀ i, i < F.n → S (tv F R i)) ↔ ∀ i, i < F.n → S (tv F T i))
end
end T
set_option maxRecDepth 100000
set_option maxHeartbeats 4000000
namespace T
open PySem PySem.Spec PyProof.Rows L2
/-! ### what two whole numbers share -/
/-! ### a made ring is whole -/
section
variable {F : NF} {r : Rg}
/-! ### tables of rows of small places -/
/-! ### ideals by their tables -/
def c0 (A : List (List Int)) : Int := co (A.getD 0 []) 0
end
end T
set_option maxRecDepth 100000
set_option maxHeartbeats 4000000
namespace T
open PySem PySem.Spec PyProof.Rows L2
/-! ### products of ideals -/
section
variable {F : NF} {r : Rg}
/-! ### the whole ring -/
/-! ### the numbers that a whole number brings to multiples of m -/
end
end T
set_option maxRecDepth 100000
set_option maxHeartbeats 4000000
namespace T
open PySem PySem.Spec PyProof.Rows L2
/-! ### ideals that the laws draw -/
section
variable {F : NF} {r : Rg}
/-! known tables -/
/-! powers -/
theorem true_id : IsId (fun _ : F.R => True) := ⟨⟨True.intro, fun _ _ => True.intro⟩, fun _ => True.intro⟩
/-! multiples -/
def Sc (s : Int) (I : F.R → Prop) (x : F.R) : Prop := ∃ y, I y ∧ x = (s : F.R) * y
end
end T
set_option maxRecDepth 100000
set_option maxHeartbeats 4000000
namespace T
open PySem PySem.Spec PyProof.Rows L2
/-! ### the ideal made by some numbers -/
section
variable {F : NF} {r : Rg}
end
end T
set_option maxRecDepth 100000
set_option maxHeartbeats 4000000
namespace T
open PySem PySem.Spec PyProof.Rows L2
/-! ### the laws' drawn ideals -/
section
variable {F : NF} {r : Rg}
end
end T
set_option maxRecDepth 100000
set_option maxHeartbeats 4000000
namespace T
open PySem PySem.Spec PyProof.Rows L2
/-! ### ideals of a whole ring: parted, counted -/
section
variable {F : NF}
/-- an ideal with a whole number above 0 -/
structure Nz (I : F.R → Prop) : Prop extends IsId I where
  some : ∃ m : Int, 0 < m ∧ I (m : F.R)
theorem Nz.pr {I J : F.R → Prop} (hI : Nz I) (hJ : Nz J) : Nz (Pr I J) := by
  obtain ⟨m, m0, hm⟩ := hI.some
  obtain ⟨k, k0, hk⟩ := hJ.some
  exact ⟨Pr.id hI.toIsId, m * k, Int.mul_pos m0 k0, by rw [ic_mul]; exact Pr.of hm hk⟩
theorem Nz.sup {I J : F.R → Prop} (hI : Nz I) (hJ : IsId J) (h : ∀ x, I x → J x) : Nz J := by
  obtain ⟨m, m0, hm⟩ := hI.some
  exact ⟨hJ, m, m0, h _ hm⟩
theorem Pr.le_l {I J : F.R → Prop} (hI : IsId I) {x : F.R} (h : Pr I J x) : I x := Pr.le hI.toIsSub (fun x y hx _ => by rw [show x * y = y * x by grind]; exact hI.mul hx y) h
theorem Pr.one {I : F.R → Prop} (hI : IsId I) (x : F.R) : Pr I (fun _ => True) x ↔ I x := ⟨Pr.le_l hI, fun h => by
  have := Pr.of (J := fun _ : F.R => True) h (y := 1) True.intro
  rwa [show x * 1 = x by grind] at this⟩
/-- what is divided by m -/
def Dv' (m : Int) (K : F.R → Prop) (z : F.R) : Prop := K ((m : F.R) * z)
theorem Dv'.id {m : Int} {K : F.R → Prop} (h : IsId K) : IsId (Dv' m K) := by
  refine isId_of ⟨?_, fun {x y} hx hy => ?_⟩ fun a x hx => ?_
  · show K ((m : F.R) * 0); rw [show (m : F.R) * 0 = 0 by grind]; exact h.zero
  · show K ((m : F.R) * (x - y)); rw [show (m : F.R) * (x - y) = (m : F.R) * x - (m : F.R) * y by grind]; exact h.sub hx hy
  · show K ((m : F.R) * (a * x)); rw [show (m : F.R) * (a * x) = a * ((m : F.R) * x) by grind]; exact h.mul hx a
/-- a factor that two products share -/
theorem Whole.cancel (hw : Whole F) {A C D : F.R → Prop} (hA : Nz A) (hD : IsId D) (h : ∀ x, Pr A C x → Pr A D x) {c : F.R} (hc : C c) : D c := by
  obtain ⟨m, m0, hm⟩ := hA.some
  have hmm : Pr A (Du m A) (m : F.R) := (hw.inv hA.toIsId m0 hm _).mpr (by rw [show (m : F.R) = (m : F.R) * 1 by grind]; exact mm_int m 1)
  have : Sc m D ((m : F.R) * c) := by
    refine Pr.le (S := fun z => Sc m D (z * c)) ⟨?_, ?_⟩ (fun x y hx hy => ?_) hmm
    · exact ⟨0, hD.zero, by grind⟩
    · rintro u v ⟨a, ha, ea⟩ ⟨b, hb, eb⟩
      exact ⟨a - b, hD.sub ha hb, by rw [show (u - v) * c = u * c - v * c by grind, ea, eb]; grind⟩
    · -- x y c = y (x c), x c in A D
      have hxc := h _ (Pr.of hx hc)
      have : Sc m D (y * (x * c)) := by
        refine Pr.le (S := fun z => Sc m D (y * z)) ⟨⟨0, hD.zero, by grind⟩, ?_⟩ (fun u v hu hv => ?_) hxc
        · rintro u v ⟨a, ha, ea⟩ ⟨b, hb, eb⟩
          exact ⟨a - b, hD.sub ha hb, by rw [show y * (u - v) = y * u - y * v by grind, ea, eb]; grind⟩
        · obtain ⟨w, e⟩ := NF.dvp_iff.mp (hy u hu)
          exact ⟨w * v, hD.mul hv w, by rw [show y * (u * v) = u * y * v by grind, e]; grind⟩
      rwa [show y * (x * c) = x * y * c by grind] at this
  obtain ⟨d, hd, e⟩ := this
  rw [NF.int_cancel (by omega) e]
  exact hd
/-- what holds B is parted off it -/
theorem Whole.parted (hw : Whole F) {P B : F.R → Prop} (hP : Nz P) (hB : Nz B) (h : ∀ x, B x → P x) : ∃ C, Nz C ∧ (∀ x, B x → C x) ∧ ∀ x, Pr C P x ↔ B x := by
  obtain ⟨p, p0, hp⟩ := hP.some
  have hpp : Pr P (Du p P) (p : F.R) := (hw.inv hP.toIsId p0 hp _).mpr (by rw [show (p : F.R) = (p : F.R) * 1 by grind]; exact mm_int p 1)
  have hK : IsId (Pr B (Du p P)) := Pr.id hB.toIsId
  have hBC : ∀ x, B x → Dv' p (Pr B (Du p P)) x := fun x hx => by
    show Pr B (Du p P) ((p : F.R) * x)
    rw [show (p : F.R) * x = x * (p : F.R) by grind]
    exact Pr.of hx (Du.m p P)
  refine ⟨Dv' p (Pr B (Du p P)), hB.sup (Dv'.id hK) hBC, hBC, fun x => ⟨?_, fun hx => ?_⟩⟩
  · refine Pr.le hB.toIsSub fun z w hz hw' => ?_
    -- p z w in B P* P = p B
    have hz : Pr B (Du p P) ((p : F.R) * z) := hz
    have : Sc p B ((p : F.R) * z * w) := by
      refine Pr.le (S := fun u => Sc p B (u * w)) ⟨⟨0, hB.zero, by grind⟩, ?_⟩ (fun u v hu hv => ?_) hz
      · rintro u v ⟨a, ha, ea⟩ ⟨b, hb, eb⟩
        exact ⟨a - b, hB.sub ha hb, by rw [show (u - v) * w = u * w - v * w by grind, ea, eb]; grind⟩
      · obtain ⟨q, e⟩ := NF.dvp_iff.mp (hv w hw')
        exact ⟨q * u, hB.mul hu q, by rw [show u * v * w = u * (w * v) by grind, e]; grind⟩
    obtain ⟨b, hb, e⟩ := this
    rw [show (p : F.R) * z * w = (p : F.R) * (z * w) by grind] at e
    rw [NF.int_cancel (by omega) e]
    exact hb
  · -- p x = sum of w (y x)
    have : Sc p (Pr (Dv' p (Pr B (Du p P))) P) ((p : F.R) * x) := by
      have hC := Pr.id (J := P) (Dv'.id (m := p) hK)
      refine Pr.le (S := fun u => Sc p (Pr (Dv' p (Pr B (Du p P))) P) (u * x)) ⟨⟨0, hC.zero, by grind⟩, ?_⟩ (fun u v hu hv => ?_) hpp
      · rintro u v ⟨a, ha, ea⟩ ⟨b, hb, eb⟩
        exact ⟨a - b, hC.sub ha hb, by rw [show (u - v) * x = u * x - v * x by grind, ea, eb]; grind⟩
      · obtain ⟨z, e⟩ := NF.dvp_iff.mp (hv x (h x hx))
        refine ⟨z * u, Pr.of (show Pr B (Du p P) ((p : F.R) * z) from ?_) hu, by rw [show u * v * x = u * (x * v) by grind, e]; grind⟩
        rw [← e]; exact Pr.of hx hv
    obtain ⟨b, hb, e⟩ := this
    rw [NF.int_cancel (by omega) e]
    exact hb
/-! counting -/
theorem Ix.sub {S U : F.R → Prop} (hU : IsSub U) (hSU : ∀ x, S x → U x) {k : Nat} (h : Ix S (fun _ => True) k) : ∃ j, Ix S U j := by
  classical
  obtain ⟨l, _, _, l2, l3⟩ := h
  refine ⟨_, l.filter (fun x => decide (U x)), rfl, fun x hx => by simpa using (List.mem_filter.mp hx).2, l2.filter _, fun x hx => ?_⟩
  obtain ⟨y, hy, e⟩ := l3 x True.intro
  refine ⟨y, List.mem_filter.mpr ⟨hy, ?_⟩, e⟩
  have := hU.sub hx (hSU _ e)
  rw [show x - (x - y) = y by grind] at this
  simpa using this
theorem Ix.pos {S U : F.R → Prop} (hU : IsSub U) {k : Nat} (h : Ix S U k) : 0 < k := by
  obtain ⟨l, rfl, _, _, l3⟩ := h
  obtain ⟨y, hy, _⟩ := l3 0 hU.zero
  exact List.length_pos_of_mem hy
theorem Ix.one {S U : F.R → Prop} (hS : IsSub S) (hU : IsSub U) (h : Ix S U 1) {x : F.R} (hx : U x) : S x := by
  obtain ⟨l, hl, _, _, l3⟩ := h
  match l, hl with
  | [y], _ =>
    obtain ⟨a, ha, ea⟩ := l3 x hx
    obtain ⟨b, hb, eb⟩ := l3 0 hU.zero
    rw [List.mem_singleton.mp ha] at ea
    rw [List.mem_singleton.mp hb] at eb
    have := hS.sub ea eb
    rwa [show x - y - (0 - y) = x by grind] at this
theorem Ix.self {S : F.R → Prop} (hS : IsSub S) : Ix S S 1 := ⟨[0], rfl, fun x hx => by rw [List.mem_singleton.mp hx]; exact hS.zero, List.pairwise_singleton _ _, fun x hx => ⟨0, List.mem_singleton.mpr rfl, by rwa [show x - 0 = x by grind]⟩⟩
theorem Nz.tab {I : F.R → Prop} (h : Nz I) : ∃ B : Nat → F.R, TbR F B ∧ ∀ x, I x ↔ Sp (Rw B) x := by
  obtain ⟨m, m0, hm⟩ := h.some
  exact tb_ex h.toIsSub m0 fun i _ => h.ints hm _
theorem Nz.ix {I : F.R → Prop} (h : Nz I) : ∃ k, Ix I (fun _ => True) k := by
  obtain ⟨B, hB, e⟩ := h.tab
  exact ⟨_, (ix_tb hB.toTb).congr (fun x => (e x).symm) fun _ => Iff.rfl⟩
/-- an ideal that none but the whole ring is above -/
structure Mx (P : F.R → Prop) : Prop extends Nz P where
  ne : ¬ P 1
  max : ∀ Q, IsId Q → (∀ x, P x → Q x) → (∀ x, Q x → P x) ∨ Q 1
theorem mx_ex {B : F.R → Prop} (hB : Nz B) (h1 : ¬ B 1) : ∃ P, Mx P ∧ ∀ x, B x → P x := by
  obtain ⟨k0, hk0⟩ := hB.ix
  obtain ⟨k, ⟨P, h1, h2, h3, h4⟩, hl⟩ := least_nat (P := fun k => ∃ P : F.R → Prop, IsId P ∧ (∀ x, B x → P x) ∧ ¬ P 1 ∧ Ix P (fun _ => True) k) ⟨B, hB.toIsId, fun _ h => h, h1, hk0⟩
  refine ⟨P, ⟨hB.sup h1 h2, h3, fun Q hQ hPQ => ?_⟩, h2⟩
  by_cases q1 : Q 1
  · exact .inr q1
  · obtain ⟨j, hj⟩ := (hB.sup hQ fun x hx => hPQ x (h2 x hx)).ix
    have := hl j ⟨Q, hQ, fun x hx => hPQ x (h2 x hx), q1, hj⟩
    obtain ⟨i, hi⟩ := Ix.sub hQ.toIsSub hPQ h4
    have e := Ix.uniq h1.toIsSub h4 (Ix.tower h1.toIsSub hQ.toIsSub true_id.toIsSub hPQ (fun _ _ => True.intro) hj hi)
    have ip := hi.pos hQ.toIsSub
    have jp := hj.pos true_id.toIsSub
    have : i = 1 := by
      apply Classical.byContradiction
      intro z
      have : j * 2 ≤ j * i := Nat.mul_le_mul_left _ (by omega)
      omega
    subst this
    exact .inl fun x hx => Ix.one h1.toIsSub hQ.toIsSub hi hx
theorem Whole.simple (hw : Whole F) {J P : F.R → Prop} (hJ : Nz J) (hP : Mx P) {q : Nat} (hq : Ix P (fun _ => True) q) : Ix (Pr J P) J q := by
  have hJP : IsId (Pr J P) := Pr.id hJ.toIsId
  obtain ⟨v, hv, nv⟩ : ∃ v, J v ∧ ¬ Pr J P v := by
    apply Classical.byContradiction
    intro z
    have : ∀ x, J x → Pr J P x := fun x hx => Classical.byContradiction fun w => z ⟨x, hx, w⟩
    exact hP.ne (hw.cancel hJ hP.toIsId (C := fun _ => True) (fun x hx => this x (Pr.le_l hJ.toIsId hx)) True.intro)
  -- J' = (v) + J P
  have hJ' : IsId (fun x : F.R => ∃ a, Pr J P (x - a * v)) := by
    refine isId_of ⟨⟨0, by rw [show (0 : F.R) - 0 * v = 0 by grind]; exact hJP.zero⟩, ?_⟩ ?_
    · rintro x y ⟨a, ha⟩ ⟨b, hb⟩
      exact ⟨a - b, by rw [show x - y - (a - b) * v = (x - a * v) - (y - b * v) by grind]; exact hJP.sub ha hb⟩
    · rintro c x ⟨a, ha⟩
      exact ⟨c * a, by rw [show c * x - c * a * v = c * (x - a * v) by grind]; exact hJP.mul ha c⟩
  have hJ'J : ∀ x, (∃ a, Pr J P (x - a * v)) → J x := fun x ⟨a, ha⟩ => by
    have := hJ.add (Pr.le_l hJ.toIsId ha) (hJ.mul hv a)
    rwa [show x - a * v + a * v = x by grind] at this
  obtain ⟨C, hC, hJC, eC⟩ := hw.parted hJ (B := fun x : F.R => ∃ a, Pr J P (x - a * v)) (hJ.pr hP.toNz |>.sup hJ' fun x hx => ⟨0, by rwa [show x - 0 * v = x by grind]⟩) hJ'J
  have hPC : ∀ x, P x → C x := fun x hx => hw.cancel hJ hC.toIsId (C := P) (fun z hz => by
    have : Pr C J z := (eC z).mpr ⟨0, by rwa [show z - 0 * v = z by grind]⟩
    exact this.comm) hx
  have hC1 : C 1 := by
    rcases hP.max C hC.toIsId hPC with h | h
    · exfalso
      refine nv ?_
      have : Pr C J v := (eC v).mpr ⟨1, by rw [show v - 1 * v = 0 by grind]; exact hJP.zero⟩
      exact (Pr.mono h (fun _ h => h) this).comm
    · exact h
  have full : ∀ u, J u → ∃ a, Pr J P (u - a * v) := fun u hu => (eC u).mp (by
    have := Pr.of hC1 hu
    rwa [show (1 : F.R) * u = u by grind] at this)
  have ker : ∀ x, Pr J P (x * v) → P x := by
    have hK : IsId (fun x : F.R => Pr J P (x * v)) := by
      refine isId_of ⟨by rw [show (0 : F.R) * v = 0 by grind]; exact hJP.zero, fun {x y} hx hy => by rw [show (x - y) * v = x * v - y * v by grind]; exact hJP.sub hx hy⟩ fun a x hx => by
        rw [show a * x * v = a * (x * v) by grind]; exact hJP.mul hx a
    rcases hP.max _ hK fun x hx => by rw [show x * v = v * x by grind]; exact Pr.of hv hx with h | h
    · exact h
    · rw [show (1 : F.R) * v = v by grind] at h
      exact absurd h nv
  obtain ⟨l, rfl, _, l2, l3⟩ := hq
  refine ⟨l.map fun x => x * v, List.length_map .., fun y hy => ?_, ?_, fun u hu => ?_⟩
  · obtain ⟨x, _, rfl⟩ := List.mem_map.mp hy
    exact hJ.mul hv x
  · rw [List.pairwise_map]
    exact l2.imp fun {a b} h z => h (ker _ (by rwa [show (a - b) * v = a * v - b * v by grind]))
  · obtain ⟨a, ha⟩ := full u hu
    obtain ⟨y, hy, e⟩ := l3 a True.intro
    refine ⟨y * v, List.mem_map.mpr ⟨y, hy, rfl⟩, ?_⟩
    have h2 : Pr J P ((a - y) * v) := by rw [show (a - y) * v = v * (a - y) by grind]; exact Pr.of hv e
    have := hJP.add ha h2
    rwa [show u - a * v + (a - y) * v = u - y * v by grind] at this
/-- as many rests of A by A B as of the whole ring by B -/
theorem Whole.index (hw : Whole F) : ∀ (N k : Nat), k ≤ N → ∀ A B : F.R → Prop, Nz A → Nz B → Ix B (fun _ => True) k → Ix (Pr A B) A k
  | 0, k, hk, A, B, hA, hB, h => by have := h.pos true_id.toIsSub; omega
  | N + 1, k, hk, A, B, hA, hB, h => by
    by_cases b1 : B 1
    · have all : ∀ x, B x := hB.all b1
      have e1 : k = 1 := Ix.uniq hB.toIsSub h ((Ix.self hB.toIsSub).congr (fun _ => Iff.rfl) fun x => ⟨fun _ => True.intro, fun _ => all x⟩)
      rw [e1]
      exact (Ix.self hA.toIsSub).congr (fun x => ⟨fun h => by have := (Pr.one hA.toIsId x).mpr h; exact Pr.mono (fun _ h => h) (fun x _ => all x) this, Pr.le_l hA.toIsId⟩) fun _ => Iff.rfl
    · obtain ⟨P, hP, hBP⟩ := mx_ex hB b1
      obtain ⟨C, hC, hBC, eC⟩ := hw.parted hP.toNz hB hBP
      obtain ⟨q, hq⟩ := hP.toNz.ix
      obtain ⟨c, hc⟩ := hC.ix
      have i1 := hw.simple hC hP hq
      have eB := Ix.uniq hB.toIsSub h ((Ix.tower (Pr.id hC.toIsId).toIsSub hC.toIsSub true_id.toIsSub (fun x => Pr.le_l hC.toIsId) (fun _ _ => True.intro) hc i1).congr eC fun _ => Iff.rfl)
      have cp := hc.pos true_id.toIsSub
      have qp := hq.pos true_id.toIsSub
      have q2 : q ≠ 1 := fun z => hP.ne (Ix.one hP.toIsSub true_id.toIsSub (z ▸ hq) True.intro)
      have ck : c * 2 ≤ c * q := Nat.mul_le_mul_left _ (by omega)
      have i2 := hw.index N c (by omega) A C hA hC hc
      have i3 := hw.simple (hA.pr hC) hP hq
      have i4 := Ix.tower (Pr.id (Pr.id hA.toIsId)).toIsSub (Pr.id hA.toIsId).toIsSub hA.toIsSub (fun x => Pr.le_l (Pr.id hA.toIsId)) (fun x => Pr.le_l hA.toIsId) i2 i3
      rw [eB]
      refine i4.congr (fun x => ⟨fun h => ?_, fun h => ?_⟩) fun _ => Iff.rfl
      · exact Pr.mono (fun _ h => h) (fun y hy => (eC y).mp hy) h.assoc
      · exact Pr.assoc' (Pr.mono (fun _ h => h) (fun y hy => (eC y).mpr hy) h)
/-! norms of tables -/
def szL (n : Nat) (A : List (List Int)) : Int := (List.range n).foldl (fun p i => p * co (A.getD i []) i) 1
/-! the product of known ideals -/
end
end T
set_option maxRecDepth 100000
set_option maxHeartbeats 4000000
namespace T
open PySem PySem.Spec PyProof.Rows L2
/-! ### powers of an ideal by the powers of its rows -/
section
variable {F : NF}
end
end T
set_option maxRecDepth 100000
set_option maxHeartbeats 4000000
namespace T
open PySem PySem.Spec PyProof.Rows L2
/-! ### what a table holds; the laws' looks at tables -/
section
variable {F : NF} {r : Rg}
/-! the laws' looks -/
end
end T
set_option maxRecDepth 100000
set_option maxHeartbeats 4000000
namespace T
open PySem PySem.Spec PyProof.Rows L2
/-! ### what two ideals hold together, what both hold, which lies within which -/
section
variable {F : NF} {r : Rg}
/-! the sum -/
/-! what both hold -/
theorem twice (F : NF) : ∃ F2 : NF, F2.n = 2 * F.n := by
  have hp := F.pos
  obtain ⟨F2, h⟩ := nf_of (f := List.replicate (2 * F.n) 0 ++ [1]) (n := 2 * F.n) (by simp) (by rw [co_snoc (List.length_replicate ..), if_pos rfl]) (by omega)
  exact ⟨F2, h.n⟩
section
variable {F2 : NF} (h2n : F2.n = 2 * F.n)
include h2n
end
end
end T
set_option maxRecDepth 100000
set_option maxHeartbeats 4000000
namespace T
open PySem PySem.Spec PyProof.Rows L2
/-! ### partners -/
section
variable {F : NF} {r : Rg}
/-! the numbers b -/
/-! the table undone -/
/-! the partner -/
/-! a table divided -/
/-! what is divided by an ideal -/
end
end T
set_option maxRecDepth 100000
set_option maxHeartbeats 4000000
namespace T
open PySem PySem.Spec PyProof.Rows L2
/-! the table of all multiples of a number -/
section
variable {F : NF} {r : Rg}
/-! the partner's partner -/
end
end T
set_option maxRecDepth 100000
set_option maxHeartbeats 4000000
namespace T
open PySem PySem.Spec PyProof.Rows L2
/-! the derivative -/
/-! a prime polynomial doesn't divide its derivative -/
end T
set_option maxRecDepth 100000
set_option maxHeartbeats 4000000
namespace T
open PySem PySem.Spec PyProof.Rows L2
section
variable {F : NF} {r : Rg}
end
end T
set_option maxRecDepth 100000
set_option maxHeartbeats 4000000
namespace T
open PySem PySem.Spec PyProof.Rows L2
/-! what primes divide the measure -/
section
variable {F : NF} {r : Rg}
end
end T
set_option maxRecDepth 100000
set_option maxHeartbeats 4000000
namespace T
open PySem PySem.Spec PyProof.Rows L2
/-! the measure by traces -/
section
variable {F : NF} {r : Rg}
end
end T
set_option maxRecDepth 100000
set_option maxHeartbeats 4000000
namespace T
open PySem PySem.Spec PyProof.Rows L2
/-! the laws' near ideals -/
section
variable {F : NF} {r : Rg}
end
end T
set_option maxRecDepth 100000
set_option maxHeartbeats 4000000
namespace T
open PySem PySem.Spec PyProof.Rows L2
/-! the primes above a prime: the numbers that a part of the polynomial divides -/
section
variable {F : NF} {r : Rg}
end
end T
set_option maxRecDepth 100000
set_option maxHeartbeats 4000000
namespace T
open PySem PySem.Spec PyProof.Rows L2
/-! the table of a prime above -/
section
variable {F : NF} {r : Rg}
end
end T
set_option maxRecDepth 100000
set_option maxHeartbeats 4000000
namespace T
open PySem PySem.Spec PyProof.Rows L2
section
variable {F : NF} {r : Rg}
/-! products of maximal ideals: one way alone -/
end
end T
set_option maxRecDepth 100000
set_option maxHeartbeats 4000000
namespace T
open PySem PySem.Spec PyProof.Rows L2
/-! in how many ways degrees add to a number -/
/-- the numbers of ways, with fuel -/
def wN : List Nat → Nat → Nat → Nat
  | [], k, _ => if k = 0 then 1 else 0
  | _ :: _, _, 0 => 0
  | d :: ds, k, n + 1 => wN ds k (k + 1) + if d ≤ k then wN (d :: ds) (k - d) n else 0
def ways (ds : List Nat) (k : Nat) : Nat := wN ds k (k + 1)
end T
set_option maxRecDepth 100000
set_option maxHeartbeats 4000000
namespace T
open PySem PySem.Spec PyProof.Rows L2
/-! data of one kind, sorted: of unlike data the list rises strictly -/
section
variable {α : Type} [DecidableEq α] {A : Dt α} {e : Enc A}
end
end T
set_option maxRecDepth 100000
set_option maxHeartbeats 4000000
namespace T
open PySem PySem.Spec PyProof.Rows L2
/-! how many products of powers take a number of steps away wholly -/
section
variable {β : Type}
end
end T
set_option maxRecDepth 100000
set_option maxHeartbeats 4000000
namespace T
open PySem PySem.Spec PyProof.Rows L2
/-! the products of powers, as lists of their factors: no two are alike -/
section
variable {γ : Type} [DecidableEq γ]
end
end T
set_option maxRecDepth 100000
set_option maxHeartbeats 4000000
namespace T
open PySem PySem.Spec PyProof.Rows L2
/-! the products of powers: what their factors are, and the loop under a map -/
section
variable {γ : Type}
end
end T
set_option maxRecDepth 100000
set_option maxHeartbeats 4000000
namespace T
open PySem PySem.Spec PyProof.Rows L2
/-! the loop of powers in the program's own words -/
end T
set_option maxRecDepth 100000
set_option maxHeartbeats 4000000
namespace T
open PySem PySem.Spec PyProof.Rows L2
/-! the loop of powers for each that was found so far -/
end T
set_option maxRecDepth 100000
set_option maxHeartbeats 4000000
namespace T
open PySem PySem.Spec PyProof.Rows L2
/-! the loop over the primes above p -/
end T
set_option maxRecDepth 100000
set_option maxHeartbeats 4000000
namespace T
open PySem PySem.Spec PyProof.Rows L2
/-! what is left wholly taken -/
end T
set_option maxRecDepth 100000
set_option maxHeartbeats 4000000
namespace T
open PySem PySem.Spec PyProof.Rows L2
/-! how often a maximal ideal goes into an ideal -/
section
variable {F : NF} {r : Rg}
theorem fx {I J : F.R → Prop} (h : ∀ x, I x ↔ J x) : I = J := funext fun x => propext (h x)
/-! numbers -/
end
end T
set_option maxRecDepth 100000
set_option maxHeartbeats 4000000
namespace T
open PySem PySem.Spec PyProof.Rows L2
/-! the primes above p, all of them, and p as their product -/
section
variable {F : NF} {r : Rg}
end
end T
set_option maxRecDepth 100000
set_option maxHeartbeats 4000000
namespace T
open PySem PySem.Spec PyProof.Rows L2
/-! what `above` tells -/
section
variable {F : NF} {r : Rg}
/-! any maximal ideal that holds p is told -/
end
end T
set_option maxRecDepth 100000
set_option maxHeartbeats 4000000
namespace T
open PySem PySem.Spec PyProof.Rows L2
/-! the turner of a prime: a number h such that h x / p is in the ring just where the prime holds x -/
section
variable {F : NF} {r : Rg}
end
end T
set_option maxRecDepth 100000
set_option maxHeartbeats 4000000
namespace T
open PySem PySem.Spec PyProof.Rows L2
/-! as many rests by the multiples of a number as its norm tells -/
section
variable {F : NF} {r : Rg}
end
end T
set_option maxRecDepth 100000
set_option maxHeartbeats 4000000
namespace T
open PySem PySem.Spec PyProof.Rows L2
/-! how often a prime goes into a number and into an ideal -/
section
variable {F : NF} {r : Rg}
end
end T
set_option maxRecDepth 100000
set_option maxHeartbeats 4000000
namespace T
open PySem PySem.Spec PyProof.Rows L2
/-! how often a prime goes into a number, told by the loop -/
section
variable {F : NF} {r : Rg}
end
end T
set_option maxRecDepth 100000
set_option maxHeartbeats 4000000
namespace T
open PySem PySem.Spec PyProof.Rows L2
/-! how often p goes into a norm; sums of numbers -/
section
variable {F : NF} {r : Rg}
end
end T
set_option maxRecDepth 100000
set_option maxHeartbeats 4000000
namespace T
open PySem PySem.Spec PyProof.Rows L2
/-! shared helpers of the laws on primes -/
section
variable {F : NF} {r : Rg}
end
end T
set_option maxRecDepth 100000
set_option maxHeartbeats 4000000
namespace T
open PySem PySem.Spec PyProof.Rows L2
/-! a number parted into small primes -/
end T
set_option maxRecDepth 100000
set_option maxHeartbeats 4000000
namespace T
open PySem PySem.Spec PyProof.Rows L2
/-! ideals taken many times, built, and taken into primes -/
section
variable {F : NF} {r : Rg}
/-! taken into primes -/
end
end T
set_option maxRecDepth 100000
set_option maxHeartbeats 4000000
namespace T
open PySem PySem.Spec PyProof.Rows L2
section
variable {F : NF} {r : Rg}
end
end T
set_option maxRecDepth 100000
set_option maxHeartbeats 4000000
namespace T
open PySem PySem.Spec PyProof.Rows L2
section
variable {F : NF} {r : Rg}
end
end T
set_option maxRecDepth 100000
set_option maxHeartbeats 4000000
namespace T
open PySem PySem.Spec PyProof.Rows L2
/-! the loops of powers once more: what is known of a table depends on what is left -/
end T
set_option maxRecDepth 100000
set_option maxHeartbeats 4000000
namespace T
open PySem PySem.Spec PyProof.Rows L2
/-! all ideals whose norm is a power of p -/
section
variable {γ : Type}
end
section
variable {F : NF} {r : Rg}
end
end T
set_option maxRecDepth 100000
set_option maxHeartbeats 4000000
namespace T
open PySem PySem.Spec PyProof.Rows L2
section
variable {F : NF} {r : Rg}
end
end T
set_option maxRecDepth 100000
set_option maxHeartbeats 4000000
namespace T
open PySem PySem.Spec PyProof.Rows L2
/-! all ideals of a norm -/
section
variable {F : NF} {r : Rg}
end
end T
set_option maxRecDepth 100000
set_option maxHeartbeats 4000000
namespace T
open PySem PySem.Spec PyProof.Rows L2
section
variable {F : NF} {r : Rg}
end
end T
set_option maxRecDepth 100000
set_option maxHeartbeats 4000000
namespace T
open PySem PySem.Spec PyProof.Rows L2
section
variable {F : NF} {r : Rg}
/-! ### rows ahead of s only -/
end
end T
set_option maxRecDepth 100000
set_option maxHeartbeats 4000000
namespace T
open PySem PySem.Spec PyProof.Rows L2
section
variable {F : NF} {r : Rg}
/-! ### the rows that a corner may have -/
end
end T
set_option maxRecDepth 100000
set_option maxHeartbeats 4000000
namespace T
open PySem PySem.Spec PyProof.Rows L2
section
variable {F : NF} {r : Rg}
/-- the first i rows of a table, with what is left of m -/
structure PT (F : NF) (m : Int) (i : Nat) (A : List (List Int)) (q : Int) : Prop where
  len : A.length = i
  rows : ∀ t, t < i → (A.getD t []).length = F.n
  up : ∀ t j, t < i → t < j → co (A.getD t []) j = 0
  pos : ∀ t, t < i → 0 < co (A.getD t []) t
  red : ∀ t j, t < i → j < t → 0 ≤ co (A.getD t []) j ∧ co (A.getD t []) j < co (A.getD j []) j
  cl : ∀ t, t + 1 < i → Mem (tv F A) (t + 2) (F.cl PZ.X * tv F A t)
  sz : szL i A * q = m
  q0 : 0 < q
end
end T
set_option maxRecDepth 100000
set_option maxHeartbeats 4000000
namespace T
open PySem PySem.Spec PyProof.Rows L2
section
variable {F : NF} {r : Rg}
end
end T
set_option maxRecDepth 100000
set_option maxHeartbeats 4000000
namespace T
open PySem PySem.Spec PyProof.Rows L2
section
variable {p r : Int}
/-! ### values and quotients -/
end
end T
set_option maxRecDepth 100000
set_option maxHeartbeats 4000000
namespace T
open PySem PySem.Spec PyProof.Rows L2
section
variable {p : Int}
end
end T
set_option maxRecDepth 100000
set_option maxHeartbeats 4000000
namespace T
open PySem PySem.Spec PyProof.Rows L2
section
variable {p : Int}
end
end T
set_option maxRecDepth 100000
set_option maxHeartbeats 4000000
namespace T
open PySem PySem.Spec PyProof.Rows L2
section
variable {p : Int}
end
end T
set_option maxRecDepth 100000
set_option maxHeartbeats 4000000
namespace T
open PySem PySem.Spec PyProof.Rows L2
section
variable {F : NF} {r : Rg}
end
end T
set_option maxRecDepth 100000
set_option maxHeartbeats 4000000
namespace T
open PySem PySem.Spec PyProof.Rows L2
section
variable {F : NF} {r : Rg}
end
end T
set_option maxRecDepth 100000
set_option maxHeartbeats 4000000
namespace T
open PySem PySem.Spec PyProof.Rows L2
/-! ### which table is the lesser -/
section
variable {F : NF} {r : Rg}
end
end T
set_option maxRecDepth 100000
set_option maxHeartbeats 4000000
namespace T
/-! ### steps of degree two: (a, u) with 4 a | u u - D -/
structure Fm (D a u : Int) : Prop where
  pos : 0 < a
  dvd : 4 * a ∣ u * u - D
/-- reduced -/
structure Rd (D s : Int) (x : Int × Int) : Prop where
  fm : Fm D x.1 x.2
  le : x.1 ≤ s
  lo : s - 2 * x.1 < x.2
  hi : x.2 ≤ s
  far : 2 * x.1 - x.2 ≤ s
end T
set_option maxRecDepth 100000
set_option maxHeartbeats 4000000
namespace T
/-! ### the way to a reduced one, and round -/
/-- u brought to the window of its a -/
structure Br (D s : Int) (x : Int × Int) : Prop where
  fm : Fm D x.1 x.2
  lo : max x.1 s - 2 * x.1 < x.2
  hi : x.2 ≤ max x.1 s
theorem Br.rd {D s : Int} {x : Int × Int} (h : Br D s x) (h1 : x.1 ≤ s) (h2 : 2 * x.1 - x.2 ≤ s) : Rd D s x := by
  have a := h.lo
  have b := h.hi
  rw [show max x.1 s = s by omega] at a b
  exact ⟨h.fm, h1, a, b, h2⟩
/-! the walk round -/
end T
set_option maxRecDepth 100000
set_option maxHeartbeats 4000000
namespace T
open PySem PySem.Spec PyProof.Rows L2
section
variable {r : Rg} {D t n0 : Int}
/-- a ring of degree two, as told -/
structure R2 (r : Rg) (D t n0 : Int) : Prop where
  p0 : pget r.1 0 = ok n0
  p1 : pget r.1 1 = ok t
  dd : D = t * t - 4 * n0
end
end T
set_option maxRecDepth 100000
set_option maxHeartbeats 4000000
namespace T
open PySem PySem.Spec PyProof.Rows L2
/-! ### below nought -/
section
variable {r : Rg} {D t n0 : Int}
end
end T
set_option maxRecDepth 100000
set_option maxHeartbeats 4000000
namespace T
open PySem PySem.Spec PyProof.Rows L2
section
variable {r : Rg} {D t n0 s : Int}
end
end T
set_option maxRecDepth 100000
set_option maxHeartbeats 4000000
namespace T
open PySem PySem.Spec PyProof.Rows L2
section
variable {r : Rg} {D t n0 s : Int}
end
end T
set_option maxRecDepth 100000
set_option maxHeartbeats 4000000
namespace T
open PySem PySem.Spec PyProof.Rows L2
section
variable {F : NF} {r : Rg}
end
end T
set_option maxRecDepth 100000
set_option maxHeartbeats 4000000
namespace T
open PySem PySem.Spec PyProof.Rows L2
section
variable {F : NF} {r : Rg} {t n0 : Int}
end
end T
set_option maxRecDepth 100000
set_option maxHeartbeats 4000000
namespace T
open PySem PySem.Spec PyProof.Rows L2
section
variable {F : NF} {r : Rg} {t n0 D s : Int}
/-- the numbers of (a, ρ) -/
def Iv (F : NF) (v : Int × Int) (z : F.R) : Prop := ∃ x y : Int, z = (x : F.R) * (v.1 : F.R) + (y : F.R) * ((v.2 : F.R) + F.cl PZ.X)
end
end T
set_option maxRecDepth 100000
set_option maxHeartbeats 4000000
namespace T
open PySem PySem.Spec PyProof.Rows L2
section
variable {F : NF} {r : Rg} {t n0 D s : Int}
end
end T
set_option maxRecDepth 100000
set_option maxHeartbeats 4000000
namespace T
open PySem PySem.Spec PyProof.Rows L2
section
variable {F : NF} {r : Rg} {t n0 D s : Int}
end
end T
set_option maxRecDepth 100000
set_option maxHeartbeats 4000000
namespace T
open PySem PySem.Spec PyProof.Rows L2
section
variable {F : NF} {r : Rg} {t n0 D s : Int}
end
end T
set_option maxRecDepth 100000
set_option maxHeartbeats 4000000
namespace T
open PySem PySem.Spec PyProof.Rows L2
section
variable {F : NF} {r : Rg} {t n0 D s : Int}
end
end T
set_option maxRecDepth 100000
set_option maxHeartbeats 4000000
namespace T
open PySem PySem.Spec PyProof.Rows L2
section
variable {F : NF} {r : Rg} {t n0 : Int}
end
end T
set_option maxRecDepth 100000
set_option maxHeartbeats 4000000
namespace T
/-! ### forms a i i + u i j + n j j, and those that are alike to them -/
section
variable {D s : Int}
end
/-! below nought: a form with |u| at most a at most n -/
end T
set_option maxRecDepth 100000
set_option maxHeartbeats 4000000
namespace T
open PySem PySem.Spec PyProof.Rows L2
section
variable {F : NF} {r : Rg} {t n0 D s : Int}
/-! ### alike: by one number the one, by another one the other -/
end
end T
set_option maxRecDepth 100000
set_option maxHeartbeats 4000000
namespace T
open PySem PySem.Spec PyProof.Rows L2
section
variable {F : NF} {r : Rg} {t n0 D s : Int}
end
end T
set_option maxRecDepth 100000
set_option maxHeartbeats 4000000
namespace T
open PySem PySem.Spec PyProof.Rows L2
end T
set_option maxRecDepth 100000
set_option maxHeartbeats 4000000
namespace T
open PySem PySem.Spec PyProof.Rows L2
section
variable {F : NF} {r : Rg} {t n0 : Int}
end
end T
set_option maxRecDepth 100000
set_option maxHeartbeats 4000000
namespace T
open PySem PySem.Spec PyProof.Rows L2
/-! ### degree two by hand, for numbers of any size that the guards allow -/
section
variable {F : NF} {r : Rg} {t n0 : Int}
end
end T
set_option maxRecDepth 100000
set_option maxHeartbeats 4000000
namespace T
open PySem PySem.Spec PyProof.Rows L2
section
variable {F : NF} {r : Rg} {t n0 : Int}
end
end T
set_option maxRecDepth 100000
set_option maxHeartbeats 4000000
namespace T
open PySem PySem.Spec PyProof.Rows L2
/-! ### norms that are forbidden -/
end T
set_option maxRecDepth 100000
set_option maxHeartbeats 4000000
namespace T
open PySem PySem.Spec PyProof.Rows L2
section
variable {F : NF} {r : Rg} {t n0 : Int}
end
end T
set_option maxRecDepth 100000
set_option maxHeartbeats 4000000
namespace T
open PySem PySem.Spec PyProof.Rows L2
section
variable {F : NF} {r : Rg} {t n0 : Int}
end
end T
set_option maxRecDepth 100000
set_option maxHeartbeats 4000000
namespace T
open PySem PySem.Spec PyProof.Rows L2
section
variable {F : NF} {r : Rg} {t n0 : Int}
end
end T
set_option maxRecDepth 100000
set_option maxHeartbeats 4000000
namespace T
/-! ### how many reduced ones there are -/
section
variable {D s : Int}
end
end T
set_option maxRecDepth 100000
set_option maxHeartbeats 4000000
namespace T
open PySem PySem.Spec PyProof.Rows L2
/-! ### units of a ring of degree two with a measure above nought -/
section
variable {D s : Int} {X : Int × Int}
end
section
variable {F : NF} {r : Rg} {t n0 D s : Int}
end
end T
set_option maxRecDepth 100000
set_option maxHeartbeats 4000000
namespace T
open PySem PySem.Spec PyProof.Rows L2
section
variable {F : NF} {r : Rg} {t n0 D s : Int}
end
end T
set_option maxRecDepth 100000
set_option maxHeartbeats 4000000
namespace T
open PySem PySem.Spec PyProof.Rows L2
section
variable {F : NF} {r : Rg} {t n0 : Int}
end
end T
set_option maxRecDepth 100000
set_option maxHeartbeats 4000000
namespace T
open PySem PySem.Spec PyProof.Rows L2
/-! which tables are ideals' tables -/
section
variable {F : NF} {r : Rg}
end
end T
set_option maxRecDepth 100000
set_option maxHeartbeats 4000000
namespace T
open PySem PySem.Spec PyProof.Rows L2
/-! which tables are primes' tables; the laws' look at any table -/
section
variable {F : NF} {r : Rg}
end
end T
set_option maxRecDepth 100000
set_option maxHeartbeats 4000000
namespace T
open PySem PySem.Spec PyProof.Rows L2
section
variable {F : NF} {r : Rg}
end
end T
set_option maxRecDepth 100000
set_option maxHeartbeats 4000000
namespace T
open PySem PySem.Spec PyProof.Rows L2
/-! how an ideal is taken, whatever the order -/
section
variable {F : NF} {r : Rg}
theorem nodup_unmap {α β : Type} {f : α → β} {l : List α} (h : (l.map f).Nodup) : l.Nodup := (List.pairwise_map.mp h).imp fun {a b} q e => q (congrArg f e)
theorem nodup_len : ∀ {l m : List Int}, l.Nodup → (∀ x ∈ l, x ∈ m) → l.length ≤ m.length
  | [], m, _, _ => Nat.zero_le _
  | a :: l, m, nd, hs => by
    obtain ⟨n1, n2⟩ := List.nodup_cons.mp nd
    have ha := hs a List.mem_cons_self
    have := nodup_len (m := m.erase a) n2 fun x hx => (List.mem_erase_of_ne (fun e : x = a => n1 (e ▸ hx))).mpr (hs x (List.mem_cons_of_mem _ hx))
    rw [List.length_erase_of_mem ha] at this
    have : 0 < m.length := List.length_pos_of_mem ha
    rw [List.length_cons]; omega
end
end T
set_option maxRecDepth 100000
set_option maxHeartbeats 4000000
namespace T
open PySem PySem.Spec PyProof.Rows L2
/-! a polynomial falls into parts modulo p in one way alone -/
/-- the product of some polynomials -/
def prodF : List (List Int) → PZ
  | [] => 1
  | g :: l => PZ.of g * prodF l
theorem prodF_app : ∀ l m : List (List Int), prodF (l ++ m) = prodF l * prodF m
  | [], m => by show prodF m = 1 * prodF m; grind
  | g :: l, m => by show _ * prodF (l ++ m) = _ * prodF l * prodF m; rw [prodF_app l m]; grind
theorem prodF_rep (g : List Int) : ∀ k, prodF (List.replicate k g) = PZ.of g ^ k
  | 0 => rfl
  | k + 1 => by rw [List.replicate_succ]; show _ * prodF _ = _; rw [prodF_rep g k]; grind
theorem prodF_perm {l m : List (List Int)} (h : l.Perm m) : prodF l = prodF m := by
  induction h with
  | nil => rfl
  | cons x _ ih => show _ * _ = _ * _; rw [ih]
  | swap x y l => show _ * (_ * _) = _ * (_ * _); grind
  | trans _ _ h1 h2 => rw [h1, h2]
theorem eqp_cancel {p : Int} (hp : InvP p) {g A B : PZ} {m : Nat} (hg : g.Mon m) (h : Eqp p (g * A) (g * B)) : Eqp p A B := by
  have e : (g * (A - B)).Dvp p := by
    have := Eqp.iff.mp h
    rwa [show g * A - g * B = g * (A - B) by grind] at this
  rcases PZ.dvp_mul hp.pr e with z | z
  · exfalso
    have := z m
    rw [hg.top] at this
    have p1 := hp.pr.1
    have := Int.le_of_dvd (by decide) this
    omega
  · exact Eqp.iff.mpr z
theorem red_eq {p : Int} {f g : List Int} (hf : Mp p f) (hg : Mp p g) (hl : f.length = g.length) (e : Eqp p (PZ.of f) (PZ.of g)) : f = g :=
  co_ext hl fun t => by
    obtain ⟨k, hk⟩ := Eqp.cg.mp e t
    have a := hf.red t
    have b := hg.red t
    have : p * k = 0 := by
      rcases Int.lt_trichotomy k 0 with c | c | c
      · have := Int.mul_le_mul_of_nonneg_left (show k ≤ -1 by omega) (show 0 ≤ p by omega)
        omega
      · rw [c, Int.mul_zero]
      · have := Int.mul_le_mul_of_nonneg_left (show 1 ≤ k by omega) (show 0 ≤ p by omega)
        omega
    omega
theorem Pt.same {p : Int} (hp : InvP p) {f g : List Int} (hf : Pt p f) (hg : Pt p g) (d : Dvm p (PZ.of f) (PZ.of g)) : f = g := by
  obtain ⟨e1, e2⟩ := hf.irr.eq_of hp hg.irr d
  have := hf.len
  have := hg.len
  exact red_eq hf.mp hg.mp (by omega) e2
theorem dvm_prodF {p : Int} (hp : InvP p) {g : List Int} (hg : Pt p g) : ∀ {l : List (List Int)}, Dvm p (PZ.of g) (prodF l) → ∃ k ∈ l, Dvm p (PZ.of g) (PZ.of k)
  | [], h => absurd h (hg.irr.ndv_one hp)
  | k :: l, h => by
    rcases hg.irr.prime hp (show Dvm p (PZ.of g) (PZ.of k * prodF l) from h) with z | z
    · exact ⟨k, List.mem_cons_self, z⟩
    · obtain ⟨q, hq, w⟩ := dvm_prodF hp hg z
      exact ⟨q, List.mem_cons_of_mem _ hq, w⟩
theorem ufd_p {p : Int} (hp : InvP p) : ∀ {a b : List (List Int)}, (∀ g ∈ a, Pt p g) → (∀ g ∈ b, Pt p g) → Eqp p (prodF a) (prodF b) → a.Perm b
  | [], [], _, _, _ => .nil
  | [], g :: b, _, hb, h => absurd (Dvm.congr h.symm (show Dvm p (PZ.of g) (prodF (g :: b)) from Dvm.left)) ((hb g List.mem_cons_self).irr.ndv_one hp)
  | g :: a, b, ha, hb, h => by
    have hg := ha g List.mem_cons_self
    obtain ⟨k, hk, d⟩ := dvm_prodF hp hg (Dvm.congr h (show Dvm p (PZ.of g) (prodF (g :: a)) from Dvm.left))
    have e := hg.same hp (hb k hk) d
    subst e
    have pm := List.perm_cons_erase hk
    rw [prodF_perm pm] at h
    have ih := ufd_p hp (a := a) (b := b.erase g) (fun x hx => ha x (List.mem_cons_of_mem _ hx)) (fun x hx => hb x (List.mem_of_mem_erase hx)) (eqp_cancel hp hg.irr.mon h)
    exact (ih.cons g).trans pm.symm
/-- the parts, each as often as it is told -/
def exF (l : List (List Int × Int)) : List (List Int) := l.flatMap fun x => List.replicate x.2.toNat x.1
theorem prodF_ex : ∀ l : List (List Int × Int), prodF (exF l) = prodP l
  | [] => rfl
  | x :: l => by
    show prodF (List.replicate x.2.toNat x.1 ++ exF l) = _
    rw [prodF_app, prodF_rep, prodF_ex l]; rfl
theorem exF_mem {l : List (List Int × Int)} {g : List Int} (h : g ∈ exF l) : ∃ x ∈ l, x.1 = g := by
  obtain ⟨x, hx, z⟩ := List.mem_flatMap.mp h
  exact ⟨x, hx, (List.eq_of_mem_replicate z).symm⟩
theorem exF_count : ∀ {l : List (List Int × Int)}, (l.map (·.1)).Nodup → ∀ g, (∀ k, (g, k) ∈ l → (exF l).count g = k.toNat) ∧ (g ∉ l.map (·.1) → (exF l).count g = 0)
  | [], _, g => ⟨fun k z => absurd z (by simp), fun _ => rfl⟩
  | x :: l, nd, g => by
    obtain ⟨n1, n2⟩ := List.nodup_cons.mp (show (x.1 :: l.map (·.1)).Nodup from nd)
    obtain ⟨i1, i2⟩ := exF_count n2 g
    have e : (exF (x :: l)).count g = (List.replicate x.2.toNat x.1).count g + (exF l).count g := by
      show (List.replicate x.2.toNat x.1 ++ exF l).count g = _
      rw [List.count_append]
    rw [e]
    by_cases c : x.1 = g
    · rw [c] at n1
      rw [i2 n1, c, List.count_replicate_self]
      refine ⟨fun k z => ?_, fun z => absurd (by rw [List.map_cons, c]; exact List.mem_cons_self) z⟩
      rcases List.mem_cons.mp z with z | z
      · rw [← (congrArg Prod.snd z : k = x.2)]; rfl
      · exact absurd (List.mem_map.mpr ⟨_, z, rfl⟩) n1
    · rw [List.count_replicate, if_neg (by simpa using c), Nat.zero_add]
      refine ⟨fun k z => ?_, fun z => i2 fun w => z (List.mem_cons_of_mem _ w)⟩
      rcases List.mem_cons.mp z with z | z
      · exact absurd (congrArg Prod.fst z : g = x.1).symm c
      · exact i1 k z
/-- two lists of unlike parts of one polynomial tell the same -/
theorem parts_perm {p : Int} (hp : InvP p) {l m : List (List Int × Int)} (hl : ∀ x ∈ l, Pt p x.1 ∧ 1 ≤ x.2) (hm : ∀ x ∈ m, Pt p x.1 ∧ 1 ≤ x.2) (nl : (l.map (·.1)).Nodup) (nm : (m.map (·.1)).Nodup) (e : Eqp p (prodP l) (prodP m)) : l.Perm m := by
  rw [← prodF_ex, ← prodF_ex] at e
  have pm := ufd_p hp (a := exF l) (b := exF m) (fun g hg => by
    obtain ⟨x, hx, rfl⟩ := exF_mem hg
    exact (hl x hx).1) (fun g hg => by
    obtain ⟨x, hx, rfl⟩ := exF_mem hg
    exact (hm x hx).1) e
  have sub : ∀ {l m : List (List Int × Int)}, (∀ x ∈ l, 1 ≤ x.2) → (∀ x ∈ m, 1 ≤ x.2) → (l.map (·.1)).Nodup → (m.map (·.1)).Nodup → (exF l).Perm (exF m) → ∀ x ∈ l, x ∈ m := fun {l m} h1 h2 nl nm pm x hx => by
    have c1 := (exF_count nl x.1).1 x.2 hx
    rw [pm.count_eq] at c1
    have k1 := h1 x hx
    have : x.1 ∈ m.map (·.1) := Classical.byContradiction fun z => by
      rw [(exF_count nm x.1).2 z] at c1; omega
    obtain ⟨y, hy, ey⟩ := List.mem_map.mp this
    have c2 := (exF_count nm x.1).1 y.2 (by rw [← ey]; exact hy)
    have k2 := h2 y hy
    have : x.2 = y.2 := by omega
    have e : x = y := Prod.ext ey.symm this
    rw [e]; exact hy
  refine (List.perm_ext_iff_of_nodup (nodup_unmap nl) (nodup_unmap nm)).mpr fun x => ⟨sub (fun x hx => (hl x hx).2) (fun x hx => (hm x hx).2) nl nm pm x, sub (fun x hx => (hm x hx).2) (fun x hx => (hl x hx).2) nm nl pm.symm x⟩
theorem Split.nd {p : Int} {f : List Int} {l : List (List Int × Int)} (h : Split p f l) : (l.map (·.1)).Nodup := by
  obtain ⟨lins, rest, rfl, hl, hr⟩ := h.ord
  rw [List.map_append, List.nodup_append]
  have long : ∀ x ∈ rest, 3 ≤ x.1.length := fun x hx => by
    rcases hr with rfl | ⟨g, e, rfl, h3, _⟩ | ⟨g, k, rfl, h1, h2, _⟩
    · exact absurd hx (by simp)
    · rw [List.mem_singleton.mp hx]; exact h3
    · simp only [List.mem_cons, List.not_mem_nil, or_false] at hx
      rcases hx with rfl | rfl
      · exact Nat.le_of_eq h1.symm
      · exact Nat.le_of_eq h2.symm
  refine ⟨List.pairwise_map.mpr (hl.up.imp fun {a b} lt e => by rw [e] at lt; omega), ?_, fun a ha b hb e => ?_⟩
  · rcases hr with rfl | ⟨g, e, rfl, h3, _⟩ | ⟨g, k, rfl, h1, h2, ne, _⟩
    · simp
    · simp
    · simp [ne]
  · obtain ⟨x, hx, rfl⟩ := List.mem_map.mp ha
    obtain ⟨y, hy, rfl⟩ := List.mem_map.mp hb
    obtain ⟨low, k, rfl, _⟩ := hl.mem x hx
    have := long y hy
    rw [← e] at this
    simp at this
end T
set_option maxRecDepth 100000
set_option maxHeartbeats 4000000
namespace T
open PySem PySem.Spec PyProof.Rows L2 TL
/-! ### texts of whole numbers, rows and tables -/
end T
set_option maxRecDepth 100000
set_option maxHeartbeats 4000000
namespace T
open PySem PySem.Spec PyProof.Rows L2
/-! numbers parted by the laws' own primes; ideals of numbers nought at a place, taken into primes -/
end T
set_option maxRecDepth 100000
set_option maxHeartbeats 4000000
namespace T
open PySem PySem.Spec PyProof.Rows L2
/-! the ideal of the numbers nought at a place modulo m, taken into primes -/
section
variable {F : NF} {r : Rg}
end
end T
set_option maxRecDepth 100000
set_option maxHeartbeats 4000000
namespace T
open PySem PySem.Spec PyProof.Rows L2
/-! how a number is parted is told by the number alone -/
section
variable {F : NF} {r : Rg}
end
end T
set_option maxRecDepth 100000
set_option maxHeartbeats 4000000
namespace T
open PySem PySem.Spec PyProof.Rows L2
/-! what is taken tells all valuations; powers by the laws' own product -/
section
variable {F : NF} {r : Rg}
end
end T
set_option maxRecDepth 100000
set_option maxHeartbeats 4000000
namespace T.FA
open T PySem PySem.Spec PyProof.Rows L2
/-! the laws' own search for factors, the change x + s, the closed measure -/
/-! ### x + s for x -/
theorem u1 : pset (x0 :: x1 :: l) 1 y = ok (x0 :: y :: l) := pset_nat (i := 1) (by simp)
theorem u2 : pset (x0 :: x1 :: x2 :: l) 2 y = ok (x0 :: x1 :: y :: l) := pset_nat (i := 2) (by simp)
theorem u3 : pset (x0 :: x1 :: x2 :: x3 :: l) 3 y = ok (x0 :: x1 :: x2 :: y :: l) := pset_nat (i := 3) (by simp)
theorem sl {x : Int} (h : x.natAbs ≤ 4) : ∀ y, pmul x y = ok (x * y) := fun y => pmul_left (by rw [pow64]; omega)
/-! ### the law's own search -/
/-! ### the law -/
section
variable {α : Type} (x0 x1 x2 x3 x4 x5 x6 : α) (l : List α)
theorem g0 : pget (x0 :: l) 0 = ok x0 := pget_some (i := 0) rfl
theorem g1 : pget (x0 :: x1 :: l) 1 = ok x1 := pget_some (i := 1) rfl
theorem g2 : pget (x0 :: x1 :: x2 :: l) 2 = ok x2 := pget_some (i := 2) rfl
theorem g3 : pget (x0 :: x1 :: x2 :: x3 :: l) 3 = ok x3 := pget_some (i := 3) rfl
theorem g4 : pget (x0 :: x1 :: x2 :: x3 :: x4 :: l) 4 = ok x4 := pget_some (i := 4) rfl
theorem g5 : pget (x0 :: x1 :: x2 :: x3 :: x4 :: x5 :: l) 5 = ok x5 := pget_some (i := 5) rfl
end
end T.FA
set_option maxRecDepth 100000
set_option maxHeartbeats 4000000
namespace T
open PySem PySem.Spec PyProof.Rows L2
/-! a number whose square lies in p p R + p x R: its own polynomial falls by powers of p -/
section
variable {F : NF} {f : List Int} {n : Nat}
end
end T
set_option maxRecDepth 100000
set_option maxHeartbeats 4000000
namespace T
open PySem PySem.Spec PyProof.Rows L2
section
variable {F : NF} {f : List Int} {n : Nat}
end
end T
set_option maxRecDepth 100000
set_option maxHeartbeats 4000000
namespace T
open PySem PySem.Spec PyProof.Rows L2
/-! double factors modulo p, by roots and steepness -/
end T
set_option maxRecDepth 100000
set_option maxHeartbeats 4000000
namespace T
open PySem PySem.Spec PyProof.Rows L2
/-! what lacks at p, by roots and by squares of quadratics -/
theorem PZ.Mon.mul {a b : PZ} {n m : Nat} (ha : a.Mon n) (hb : b.Mon m) : (a * b).Mon (n + m) := ⟨PZ.Bd.mul ha.bd hb.bd, by rw [(PZ.mul_top ha.bd hb.bd).2, ha.top, hb.top]; rfl⟩
theorem quad_mon (b a : Int) : (PZ.of [b, a, 1]).Mon 2 := ⟨fun t ht => co_out (by simpa using ht), rfl⟩
end T
set_option maxRecDepth 100000
set_option maxHeartbeats 4000000
namespace T
open PySem PySem.Spec PyProof.Rows L2
/-! what `outside` tells, whole -/
end T
set_option maxRecDepth 100000
set_option maxHeartbeats 4000000
namespace T
open PySem PySem.Spec PyProof.Rows L2
/-! when a polynomial makes a ring -/
theorem Gd.top {f : List Int} (h : Gd f) : co f (f.length - 1) = 1 := by
  obtain ⟨g, e, _⟩ := h
  rw [e]
  unfold co
  rw [List.length_append, List.getElem?_append_right (by simp)]
  simp
end T
namespace K09Law
open PySem PySem.Spec PyProof.Rows L2 T
set_option maxRecDepth 100000
set_option maxHeartbeats 4000000
noncomputable def m_cut (row1 : (List Int)) : M (List Int) :=
  (M.bind (ok (List.length row1 : Int)) fun many2 => (M.bind (whileM (fun (many3 : Int) => (M.bind (ok (decide (0 < many3))) fun z5 => if z5 = true then (M.bind (pget row1 (many3 - 1)) fun u4 => ok (decide (u4 = 0))) else ok false)) (fun (many3 : Int) => (M.bind (ok (many3 - 1)) fun many6 => ok (many6))) (many2)) fun many7 => (ok (cutL row1 none (some many7)))))
noncomputable def m_turned (a1 : Int) (p2 : Int) : M Int :=
  (M.bind (pmod a1 p2) fun one3 => (M.bind (ok p2) fun two4 => (M.bind (ok 1) fun first5 => (M.bind (ok 0) fun second6 => (M.bind (whileM (fun (s7 : Int × Int × Int × Int) => (ok (decide (1 < s7.1)))) (fun (s7 : Int × Int × Int × Int) => (M.bind (pdiv s7.2.1 s7.1) fun part8 => (M.bind (M.bind (M.bind (pmul part8 s7.1) fun u9 => ok (s7.2.1 - u9)) fun u11 => ok (u11, s7.1)) fun p10 => (M.bind (M.bind (M.bind (pmul part8 s7.2.2.1) fun u12 => ok (s7.2.2.2 - u12)) fun u14 => ok (u14, s7.2.2.1)) fun p13 => ok (p10.1, p10.2, p13.1, p13.2))))) (one3, two4, first5, second6)) fun s15 => (pmod s15.2.2.1 p2))))))
noncomputable def m_mod_poly (row1 : (List Int)) (p2 : Int) : M (List Int) :=
  (M.bind (mapC (fun place3 => (pmod place3 p2)) row1) fun u4 => (m_cut u4))
noncomputable def m_mod_parted (a1 : (List Int)) (b2 : (List Int)) (p3 : Int) : M ((List Int) × (List Int)) :=
  (M.bind (m_mod_poly a1 p3) fun left4 => (M.bind (m_mod_poly b2 p3) fun by_5 => (M.bind (ok ((List.length by_5 : Int) - 1)) fun degree6 => (M.bind (M.bind (pget by_5 degree6) fun u8 => (m_turned u8 p3)) fun back7 => (M.bind (ok ([] : List Int)) fun quotient9 => (M.bind (M.bind (prangeD (((List.length left4 : Int) - 1) - degree6) (-1)) fun xs => loopM (fun (s10 : (List Int) × (List Int)) at_11 => (M.bind (M.bind (M.bind (pget s10.1 (at_11 + degree6)) fun u13 => (pmul u13 back7)) fun u14 => (pmod u14 p3)) fun part12 => (M.bind (papp s10.2 part12) fun quotient15 => (M.bind (M.bind (prangeI (degree6 + 1)) fun xs => loopM (fun (left16 : (List Int)) j17 => (M.bind (M.bind (M.bind (M.bind (pget left16 (at_11 + j17)) fun u19 => M.bind (M.bind (pget by_5 j17) fun u18 => (pmul part12 u18)) fun u20 => ok (u19 - u20)) fun u21 => (pmod u21 p3)) fun u23 => (pset left16 (at_11 + j17) u23)) fun left22 => ok (left22))) (s10.1) xs) fun left24 => ok (left24, quotient15))))) (left4, quotient9) xs) fun s25 => (M.bind (m_cut (List.reverse s25.2)) fun u26 => M.bind (m_cut (cutL s25.1 none (some degree6))) fun u27 => ok (u26, u27))))))))
noncomputable def m_mod_at (f1 : (List Int)) (x2 : Int) (p3 : Int) : M Int :=
  (M.bind (ok 0) fun value4 => (M.bind (M.bind (ok (List.reverse f1)) fun xs => loopM (fun (value5 : Int) place6 => (M.bind (M.bind (M.bind (pmul value5 x2) fun u8 => ok (u8 + place6)) fun u9 => (pmod u9 p3)) fun value7 => ok (value7))) (value4) xs) fun value10 => (ok value10)))
noncomputable def m_pair_of (left1 : (List Int)) (p2 : Int) : M (Option (List (List Int))) :=
  (M.bind (asRec4 (cutL left1 none (some 4))) fun p3 => (sq (ρ := (Option (List (List Int)))) (M.bind (prange2 1 p2) fun xs => loopF (fun (s4 : Unit) b5 => (M.bind (M.bind (M.bind (m_turned b5 p2) fun u7 => (pmul p3.1 u7)) fun u8 => (pmod u8 p2)) fun d6 => (M.bind (ok ((!decide (b5 = d6)))) fun z9 => if z9 = true then (M.bind (M.bind (M.bind (M.bind (pmul b5 p3.2.2.2) fun u11 => ok (p3.2.1 - u11)) fun u12 => M.bind (m_turned (d6 - b5) p2) fun u13 => (pmul u12 u13)) fun u14 => (pmod u14 p2)) fun a10 => (M.bind (M.bind (M.bind (M.bind (M.bind (M.bind (pmul a10 (p3.2.2.2 - a10)) fun u15 => ok (u15 + b5)) fun u16 => ok (u16 + d6)) fun u17 => ok (u17 - p3.2.2.1)) fun u18 => (pmod u18 p2)) fun u19 => ok (decide (u19 = 0))) fun z20 => if z20 = true then (M.bind (M.bind (M.bind (M.bind (pmod (p3.2.2.2 - a10) p2) fun u21 => psz [d6, u21, 1]) fun u22 => psz [[b5, a10, 1], u22]) fun u23 => ok (some u23)) fun a24 => ok (Fl.rt a24)) else ok (Fl.nx ()))) else (M.bind (M.bind (M.bind (M.bind (pmul b5 p3.2.2.2) fun u25 => ok (p3.2.1 - u25)) fun u26 => (pmod u26 p2)) fun u27 => ok (decide (u27 = 0))) fun z28 => if z28 = true then (sq (ρ := (Option (List (List Int)))) (M.bind (prangeI p2) fun xs => loopF (fun (s29 : Unit) a30 => (M.bind (M.bind (M.bind (M.bind (M.bind (M.bind (pmul a30 (p3.2.2.2 - a30)) fun u31 => ok (u31 + b5)) fun u32 => ok (u32 + d6)) fun u33 => ok (u33 - p3.2.2.1)) fun u34 => (pmod u34 p2)) fun u35 => ok (decide (u35 = 0))) fun z36 => if z36 = true then (M.bind (M.bind (M.bind (M.bind (pmod (p3.2.2.2 - a30) p2) fun u37 => psz [d6, u37, 1]) fun u38 => psz [[b5, a30, 1], u38]) fun u39 => ok (some u39)) fun a40 => ok (Fl.rt a40)) else ok (Fl.nx ()))) () xs) (fun s41 => ok (Fl.nx ())) (fun a => Fl.rt a)) else ok (Fl.nx ()))))) () xs) (fun s42 => (ok none)) (fun a => a)))
noncomputable def m_rootless (left1 : (List Int)) (p2 : Int) : M (List ((List Int) × Int)) :=
  (M.bind (ok none) fun pair3 => (M.bind (M.bind (ok (decide ((List.length left1 : Int) = 5))) fun z4 => if z4 = true then (M.bind (m_pair_of left1 p2) fun pair5 => ok (pair5)) else ok (pair3)) fun pair6 => (M.bind (ok (Option.isNone pair6)) fun z7 => if z7 = true then (ok [(left1, 1)]) else (M.bind (M.bind (M.bind (unO pair6) fun u8 => (pget u8 0)) fun u10 => M.bind (M.bind (unO pair6) fun u9 => (pget u9 1)) fun u11 => ok (decide (u10 = u11))) fun z12 => if z12 = true then (M.bind (M.bind (M.bind (unO pair6) fun u13 => (pget u13 0)) fun u14 => ok (u14, 2)) fun u15 => psz [u15]) else (M.bind (M.bind (unO pair6) fun u16 => (psortT u16)) fun xs => mapC (fun g17 => (ok (g17, 1))) xs)))))
noncomputable def m_split_by (poly1 : (List Int)) (p2 : Int) : M (List ((List Int) × Int)) :=
  (M.bind (ok (!decide (p2 ∈ c_PRIMES))) fun z3 => if z3 = true then (exc ⟨"NoPrime", []⟩) else (M.bind (m_mod_poly poly1 p2) fun left4 => (M.bind (ok ([] : List ((List Int) × Int))) fun parts5 => (M.bind (M.bind (prangeI p2) fun xs => loopM (fun (s6 : (List Int) × (List ((List Int) × Int))) low7 => (M.bind (ok 0) fun often8 => (M.bind (whileM (fun (s9 : (List Int) × Int) => (M.bind (ok (decide (1 < (List.length s9.1 : Int)))) fun z11 => if z11 = true then (M.bind (m_mod_at s9.1 (-low7) p2) fun u10 => ok (decide (u10 = 0))) else ok false)) (fun (s9 : (List Int) × Int) => (M.bind (M.bind (m_mod_parted s9.1 [low7, 1] p2) fun u13 => ok u13.1) fun left12 => (M.bind (ok (s9.2 + 1)) fun often14 => ok (left12, often14)))) (s6.1, often8)) fun s15 => (M.bind (ok (decide (0 < s15.2))) fun z16 => if z16 = true then (M.bind (papp s6.2 ([low7, 1], s15.2)) fun parts17 => ok (s15.1, parts17)) else ok (s15.1, s6.2))))) (left4, parts5) xs) fun s18 => (M.bind (M.bind (ok (decide (1 < (List.length s18.1 : Int)))) fun z19 => if z19 = true then (M.bind (M.bind (m_rootless s18.1 p2) fun u21 => (pcat s18.2 u21)) fun parts20 => ok (parts20)) else ok (s18.2)) fun parts22 => ok parts22)))))
noncomputable def m_stays (poly1 : (List Int)) (p2 : Int) : M Bool :=
  (M.bind (m_split_by poly1 p2) fun parts3 => (M.bind (ok (decide ((List.length parts3 : Int) = 1))) fun z6 => if z6 = true then (M.bind (M.bind (pget parts3 0) fun u4 => ok u4.2) fun u5 => ok (decide (u5 = 1))) else ok false))
noncomputable def m__law_mixed (cell_here1 : Int) (k2 : Int) (prime_here3 : Int) : M Int :=
  (M.bind (M.bind (M.bind (M.bind (M.bind (M.bind (pmul (7 * k2) k2) fun u5 => ok (cell_here1 + u5)) fun u6 => ok (u6 + (13 * k2))) fun u7 => ok (u7 + 5)) fun u8 => ok (u8 * 48271)) fun u9 => ok (u9 % 2147483647)) fun far_here4 => (M.bind (M.bind (pmul far_here4 far_here4) fun u11 => ok (u11 % 2147483629)) fun far_here10 => (pmod (far_here10 * 39373) prime_here3)))
noncomputable def m__law_draws (cell_here1 : Int) (widths2 : (List Int)) (prime_here3 : Int) : M (List Int) :=
  (M.bind (ok 0) fun left4 => (M.bind (M.bind (ok (decide (1000000000000000000 ≤ cell_here1))) fun z5 => if z5 = true then (M.bind (ok (cell_here1 - 1000000000000000000)) fun left6 => ok (left6)) else ok (left4)) fun left7 => (M.bind (ok ([] : List Int)) fun found8 => (M.bind (M.bind (prangeI (List.length widths2 : Int)) fun xs => loopM (fun (s9 : Int × (List Int)) k10 => (M.bind (ok (decide (1 < s9.1))) fun z11 => if z11 = true then (M.bind (M.bind (M.bind (pget widths2 k10) fun u12 => (pmod s9.1 u12)) fun u13 => (papp s9.2 u13)) fun found14 => (M.bind (M.bind (pget widths2 k10) fun u16 => (pdiv s9.1 u16)) fun left15 => ok (left15, found14))) else (M.bind (M.bind (M.bind (m__law_mixed cell_here1 k10 prime_here3) fun u17 => M.bind (pget widths2 k10) fun u18 => (pmod u17 u18)) fun u19 => (papp s9.2 u19)) fun found20 => ok (s9.1, found20)))) (left7, found8) xs) fun s21 => ok s21.2))))
noncomputable def m__law_primes  : M (List Int) :=
  (M.bind (prange2 2 200) fun xs => compL (fun n1 => (M.bind (M.bind (prange2 2 15) fun xs => mapC (fun d2 => (M.bind (ok (decide (n1 = d2))) fun z4 => if z4 = true then ok true else (M.bind (pmod n1 d2) fun u3 => ok ((!decide (u3 = 0)))))) xs) fun u5 => ok (List.all u5 id))) (fun n1 => (ok n1)) xs)
noncomputable def m__law_prime (cell_here1 : Int) (prime_here2 : Int) : M Int :=
  (M.bind (m__law_draws cell_here1 [2, 46] prime_here2) fun found3 => (M.bind (M.bind (pget found3 0) fun u4 => ok (decide (u4 = 0))) fun z5 => if z5 = true then (M.bind m__law_primes fun u7 => M.bind (M.bind (pget found3 1) fun u6 => ok (u6 % 6)) fun u8 => (pget u7 u8)) else (M.bind m__law_primes fun u9 => M.bind (pget found3 1) fun u10 => (pget u9 u10))))
noncomputable def m__law_cell (script1 : (List Int)) (k2 : Int) : M Int :=
  (M.bind (ok (decide ((List.length script1 : Int) = 0))) fun z3 => if z3 = true then (ok (7919 * (k2 + 1))) else (M.bind (ok (decide (k2 < (List.length script1 : Int)))) fun z4 => if z4 = true then (pget script1 k2) else (M.bind (M.bind (pmod k2 (List.length script1 : Int)) fun u5 => (pget script1 u5)) fun u6 => ok (u6 + (104729 * k2)))))
noncomputable def m__law_mod_places (cell_here1 : Int) (many2 : Int) (p3 : Int) (prime_here4 : Int) : M (List Int) :=
  (M.bind (prep [p3] many2) fun u5 => (m__law_draws cell_here1 u5 prime_here4))
noncomputable def m__law_cut (row1 : (List Int)) : M (List Int) :=
  (M.bind (ok (List.length row1 : Int)) fun many2 => (M.bind (whileM (fun (many3 : Int) => (M.bind (ok (decide (0 < many3))) fun z5 => if z5 = true then (M.bind (pget row1 (many3 - 1)) fun u4 => ok (decide (u4 = 0))) else ok false)) (fun (many3 : Int) => (M.bind (ok (many3 - 1)) fun many6 => ok (many6))) (many2)) fun many7 => (ok (cutL row1 none (some many7)))))
noncomputable def m__law_mod_times (f1 : (List Int)) (g2 : (List Int)) (p3 : Int) : M (List Int) :=
  (M.bind (prep [0] ((List.length f1 : Int) + (List.length g2 : Int))) fun raw4 => (M.bind (M.bind (prangeI (List.length f1 : Int)) fun xs => loopM (fun (raw5 : (List Int)) i6 => (M.bind (M.bind (prangeI (List.length g2 : Int)) fun xs => loopM (fun (raw7 : (List Int)) j8 => (M.bind (M.bind (M.bind (M.bind (pget raw7 (i6 + j8)) fun u11 => M.bind (M.bind (pget f1 i6) fun u9 => M.bind (pget g2 j8) fun u10 => (pmul u9 u10)) fun u12 => ok (u11 + u12)) fun u13 => (pmod u13 p3)) fun u15 => (pset raw7 (i6 + j8) u15)) fun raw14 => ok (raw14))) (raw5) xs) fun raw16 => ok (raw16))) (raw4) xs) fun raw17 => (m__law_cut raw17)))
noncomputable def m__law_written (places1 : (List Int)) (p2 : Int) (cell_here3 : Int) (prime_here4 : Int) : M (List Int) :=
  (M.bind (M.bind (M.bind (prep [100000000] (List.length places1 : Int)) fun u6 => (pcat [4] u6)) fun u7 => (m__law_draws cell_here3 u7 prime_here4)) fun found5 => (M.bind (M.bind (pget found5 0) fun u9 => (pget [0, 1, 100000000000000000000, 10000000000000000000000000000000000000000000000000000000000000000000000000000000000000000] u9)) fun far_here8 => (mapC (fun x10 => (M.bind (M.bind (pmul p2 far_here8) fun u11 => (pmul u11 (x10.2 - 50000000))) fun u12 => ok (x10.1 + u12))) (List.zip places1 (cutL found5 (some 1) none)))))
noncomputable def m__law_far (cell_here1 : Int) (parts2 : Int) (most3 : Int) (prime_here4 : Int) : M Int :=
  (M.bind (M.bind (M.bind (prep [100000000] parts2) fun u6 => (pcat [6] u6)) fun u7 => (m__law_draws cell_here1 u7 prime_here4)) fun found5 => (M.bind (ok 0) fun far_here8 => (M.bind (M.bind (ok (cutL found5 (some 1) none)) fun xs => loopM (fun (far_here9 : Int) part10 => (M.bind (ok ((far_here9 * 100000000) + part10)) fun far_here11 => ok (far_here11))) (far_here8) xs) fun far_here12 => (M.bind (M.bind (pget found5 0) fun u13 => ok (decide (u13 = 0))) fun z14 => if z14 = true then (ok 0) else (M.bind (M.bind (pget found5 0) fun u15 => ok (decide (u15 = 1))) fun z16 => if z16 = true then (ok ((far_here12 % 41) - 20)) else (M.bind (pmod far_here12 ((2 * most3) + 1)) fun u17 => ok (u17 - most3)))))))
noncomputable def m__law_whole (found1 : Int) : M Bool :=
  (M.bind (ok true) fun z2 => if z2 = true then (ok (!false)) else ok false)
noncomputable def m__law_is_poly (found1 : (List Int)) : M Bool :=
  (M.bind (ok (!true)) fun z2 => if z2 = true then (ok false) else (M.bind (M.bind (M.bind (mapC (fun place3 => (m__law_whole place3)) found1) fun u4 => ok (List.all u4 id)) fun u5 => ok (!u5)) fun z6 => if z6 = true then (ok false) else (M.bind (ok (decide ((List.length found1 : Int) = 0))) fun z8 => if z8 = true then ok true else (M.bind (pget found1 (-1)) fun u7 => ok ((!decide (u7 = 0)))))))
noncomputable def m__law_is_mod (found1 : (List Int)) (p2 : Int) : M Bool :=
  (M.bind (m__law_is_poly found1) fun z8 => if z8 = true then (M.bind (mapC (fun place3 => (if (decide (0 ≤ place3)) = true then ok (decide (place3 < p2)) else ok false)) found1) fun u7 => ok (List.all u7 id)) else ok false)
noncomputable def m__law_due (p1 : Int) (r2 : Int) (s3 : Int) (e4 : Int) (u5 : Int) (ways6 : (List Int)) : M (List ((List Int) × Int)) :=
  (M.bind (M.bind (M.bind (M.bind (pmod (-r2) p1) fun u8 => psz [u8]) fun u9 => M.bind (pget ways6 0) fun u10 => (prep u9 u10)) fun u14 => M.bind (M.bind (M.bind (pmod (-s3) p1) fun u11 => psz [u11]) fun u12 => M.bind (pget ways6 1) fun u13 => (prep u12 u13)) fun u15 => (pcat u14 u15)) fun lows7 => (M.bind (ok ([] : List ((List Int) × Int))) fun rows16 => (M.bind (M.bind (M.bind (M.bind (pget ways6 2) fun u17 => ok (decide (0 < u17))) fun z18 => if z18 = true then (ok (decide (p1 = 2))) else ok false) fun z19 => if z19 = true then (M.bind (M.bind (M.bind (pget ways6 2) fun u20 => ok ([1, 1, 1], u20)) fun u21 => (papp rows16 u21)) fun rows22 => ok (rows22)) else ok (rows16)) fun rows23 => (M.bind (M.bind (M.bind (M.bind (pget ways6 2) fun u24 => ok (decide (0 < u24))) fun z25 => if z25 = true then (ok (decide (2 < p1))) else ok false) fun z26 => if z26 = true then (M.bind (M.bind (prangeI p1) fun xs => compL (fun v28 => (M.bind (M.bind (pmul v28 v28) fun u29 => (pmod u29 p1)) fun u30 => ok (decide (u30 = u5)))) (fun v28 => (ok v28)) xs) fun sides27 => (M.bind (ok (decide ((List.length sides27 : Int) = 0))) fun z31 => if z31 = true then (M.bind (M.bind (M.bind (M.bind (M.bind (M.bind (pmul e4 e4) fun u32 => ok (u32 - u5)) fun u33 => (pmod u33 p1)) fun u34 => M.bind (pmod ((-2) * e4) p1) fun u35 => psz [u34, u35, 1]) fun u36 => M.bind (pget ways6 2) fun u37 => ok (u36, u37)) fun u38 => (papp rows23 u38)) fun rows39 => ok (lows7, rows39)) else (M.bind (M.bind (M.bind (M.bind (M.bind (M.bind (pget sides27 0) fun u41 => ok (u41 - e4)) fun u42 => (pmod u42 p1)) fun u46 => M.bind (M.bind (M.bind (M.bind (pget sides27 0) fun u43 => ok (-u43)) fun u44 => ok (u44 - e4)) fun u45 => (pmod u45 p1)) fun u47 => psz [u46, u47]) fun u48 => M.bind (pget ways6 2) fun u49 => (prep u48 u49)) fun u50 => (pcat lows7 u50)) fun lows40 => ok (lows40, rows23)))) else ok (lows7, rows23)) fun s51 => (M.bind (M.bind (psortS s51.1) fun xs => mapC (fun low52 => (M.bind (pcount s51.1 low52) fun u53 => ok ([low52, 1], u53))) xs) fun u54 => (pcat u54 s51.2))))))
noncomputable def m__law_refused (poly1 : (List Int)) (p2 : Int) : M Bool :=
  (M.bind (ok 0) fun marks3 => (M.bind (tryH [(tbl_RingError, fun e5 : Ex => (M.bind (M.bind (M.bind (M.bind (exIsF tis_NoPrime e5) fun z9 => if z9 = true then (M.bind (exIsF tis_ValueError e5) fun z8 => if z8 = true then (M.bind (exIsF tis_NotTwo e5) fun u7 => ok (!u7)) else ok false) else ok false) fun u10 => ok (b2n u10)) fun u11 => ok (marks3 + u11)) fun marks6 => ok (marks6)))] (M.bind (M.bind (m_split_by poly1 p2) fun _ => ok ()) fun _ => ok (marks3))) fun marks12 => (M.bind (tryM tbl_NoPrime (M.bind (M.bind (m_stays poly1 p2) fun _ => ok ()) fun _ => ok (marks12)) (M.bind (ok (marks12 + 1)) fun marks14 => ok (marks14))) fun marks15 => (ok (decide (marks15 = 2))))))
noncomputable def m_law (script1 : (List Int)) : M Bool :=
  (M.bind (M.bind (m__law_cell script1 0) fun u3 => (m__law_prime u3 999999937)) fun p2 => (M.bind (ok [[1, 0, 0], [2, 0, 0], [3, 0, 0], [4, 0, 0], [1, 1, 0], [2, 1, 0], [1, 2, 0], [2, 2, 0], [3, 1, 0]]) fun rows4 => (M.bind (pcat rows4 [[1, 0, 1], [2, 0, 1], [1, 1, 1], [0, 0, 1], [0, 0, 2]]) fun rows5 => (M.bind (M.bind (m__law_cell script1 1) fun u7 => (m__law_draws u7 [14, 3, 6] 999999929)) fun way6 => (M.bind (M.bind (pget way6 0) fun u9 => (pget rows5 u9)) fun ways8 => (M.bind (M.bind (M.bind (m__law_cell script1 2) fun u10 => (m__law_mod_places u10 4 p2 999999893)) fun u11 => (asRec4 u11)) fun p12 => (M.bind (M.bind (M.bind (M.bind (pmul p12.2.2.1 p12.2.2.1) fun u14 => ok (u14 - p12.2.2.2)) fun u15 => (pmod u15 p2)) fun u16 => M.bind (pmod ((-2) * p12.2.2.1) p2) fun u17 => psz [u16, u17, 1]) fun h13 => (M.bind (M.bind (ok (decide (p2 = 2))) fun z18 => if z18 = true then (M.bind (ok [1, 1, 1]) fun h19 => ok (h19)) else ok (h13)) fun h20 => (M.bind (ok [1]) fun raw21 => (M.bind (M.bind (M.bind (M.bind (M.bind (M.bind (M.bind (pmod (-p12.1) p2) fun u22 => psz [u22, 1]) fun u23 => psz [u23]) fun u24 => M.bind (pget ways8 0) fun u25 => (prep u24 u25)) fun u30 => M.bind (M.bind (M.bind (M.bind (pmod (-p12.2.1) p2) fun u26 => psz [u26, 1]) fun u27 => psz [u27]) fun u28 => M.bind (pget ways8 1) fun u29 => (prep u28 u29)) fun u31 => (pcat u30 u31)) fun u33 => M.bind (M.bind (pget ways8 2) fun u32 => (prep [h20] u32)) fun u34 => (pcat u33 u34)) fun xs => loopM (fun (raw35 : (List Int)) factor36 => (M.bind (m__law_mod_times raw35 factor36 p2) fun raw37 => ok (raw37))) (raw21) xs) fun raw38 => (M.bind (M.bind (M.bind (m__law_cell script1 3) fun u40 => (m__law_written (cutL raw38 none (some (-1))) p2 u40 999999883)) fun u41 => (pcat u41 [1])) fun poly39 => (M.bind (M.bind (pget way6 1) fun u42 => ok (decide (u42 = 2))) fun z43 => if z43 = true then (M.bind (M.bind (m__law_cell script1 4) fun u45 => (m__law_far u45 3 1000000000000000000000000 999999797)) fun far_here44 => (M.bind (M.bind (pget way6 2) fun u47 => (pget [1, 4, 201, 211, (-(Int.natAbs far_here44 : Int)), (200 + ((Int.natAbs far_here44 : Int) * 2))] u47)) fun bad46 => (m__law_refused poly39 bad46))) else (M.bind (m__law_due p2 p12.1 p12.2.1 p12.2.2.1 p12.2.2.2 ways8) fun due_here48 => (M.bind (m_split_by poly39 p2) fun found49 => (M.bind (M.bind (ok (!true)) fun z54 => if z54 = true then ok true else (M.bind (M.bind (mapC (fun row50 => (M.bind (ok true) fun z51 => if z51 = true then (ok (decide (2 = 2))) else ok false)) found49) fun u52 => ok (List.all u52 id)) fun u53 => ok (!u53))) fun z55 => if z55 = true then (ok false) else (M.bind (M.bind (M.bind (mapC (fun row56 => (M.bind (m__law_is_mod row56.1 p2) fun z57 => if z57 = true then (m__law_whole row56.2) else ok false)) found49) fun u58 => ok (List.all u58 id)) fun u59 => ok (!u59)) fun z60 => if z60 = true then (ok false) else (M.bind (m_stays poly39 p2) fun told61 => (M.bind (ok (decide (found49 = due_here48))) fun z67 => if z67 = true then (M.bind (ok true) fun z66 => if z66 = true then (M.bind (M.bind (ok (decide ((List.length due_here48 : Int) = 1))) fun z64 => if z64 = true then (M.bind (M.bind (pget due_here48 0) fun u62 => ok u62.2) fun u63 => ok (decide (u63 = 1))) else ok false) fun u65 => ok (decide (told61 = u65))) else ok false) else ok false))))))))))))))))))
section
variable {P : Program} {w : World} {K : Fr} {mg : Str → Option Value} {base : Heap}
theorem sc_cut : FnScope N_cut ["row"] (defScope s_cut) := ⟨rfl, rfl, rfl, by decide +kernel, rfl, by decide +kernel, by decide +kernel⟩
theorem fx_cut (T : Facts K mg) : Fx P w K mg base "cut" 1 (.cons (tLst tInt) .nil) (dat (tRow tInt)) (fun t => m_cut t.1) :=
  fx_ret N_cut ["row"] T.d_cut sc_cut rfl (fun _ _ _ _ _ _ us hl => match us, hl with | [_], _ => rfl) fun cdv f A outer s H E t => (J_cons (S_set 1 (E_eq (E_lenL T.n_len (E_bor (E_var 0))) (by first | with_reducible rfl | (simp only [bind_okS]; done) | (simp only [bind_okS, bind_ret]; done) | (simp only [bind_okS, bind_ret, bind_bind]; done) | exact congrArg _ (funext fun _ => congrArg _ (funext fun _ => congrArg ok (decide_eq_decide.mpr Iff.rfl)))))) fun many2 => (J_cons (S_while (Γl := fun many3 : Int => [eD 0 (tLst tInt) t.1, eD 1 tInt many3]) [0, 1] (many2) (fun many3 => (B_eq (B_w (W_and (B_cmp op_gt (cp_gt _) (nomark _) (E_var 1) E_int) (W_and1 (B_cmp op_eq (cp_eq _) (nomark _) (E_ixL (E_bor (E_var 0)) (E_sub (E_var 1) E_int)) E_int)))) (by first | with_reducible rfl | (simp only [bind_okS]; done) | (simp only [bind_okS, bind_ret]; done) | (simp only [bind_okS, bind_ret, bind_bind]; done) | exact congrArg _ (funext fun _ => congrArg _ (funext fun _ => congrArg ok (decide_eq_decide.mpr Iff.rfl)))))) (fun many3 => (J_cons (S_set 1 (E_eq (E_sub (E_var 1) E_int) (by first | with_reducible rfl | (simp only [bind_okS]; done) | (simp only [bind_okS, bind_ret]; done) | (simp only [bind_okS, bind_ret, bind_bind]; done) | exact congrArg _ (funext fun _ => congrArg _ (funext fun _ => congrArg ok (decide_eq_decide.mpr Iff.rfl)))))) fun many6 => (J_nil [0, 1] (many6))))) fun many7 => (J_last (S_retT (E_eq (E_tupleL T.n_tuple (E_borF (E_slL (E_bor (E_var 0)) O_none (O_some (E_var 1))))) (by first | with_reducible rfl | (simp only [bind_okS]; done) | (simp only [bind_okS, bind_ret]; done) | (simp only [bind_okS, bind_ret, bind_bind]; done) | exact congrArg _ (funext fun _ => congrArg _ (funext fun _ => congrArg ok (decide_eq_decide.mpr Iff.rfl)))))))))
theorem sc_turned : FnScope N_turned ["a", "p"] (defScope s_turned) := ⟨rfl, rfl, rfl, by decide +kernel, rfl, by decide +kernel, by decide +kernel⟩
theorem fx_turned (T : Facts K mg) : Fx P w K mg base "turned" 1 (.cons tInt (.cons tInt .nil)) (dat tInt) (fun t => m_turned t.1 t.2.1) :=
  fx_ret N_turned ["a", "p"] T.d_turned sc_turned rfl (fun _ _ _ _ _ _ us hl => match us, hl with | [_, _], _ => rfl) fun cdv f A outer s H E t => (J_cons (S_set 2 (E_eq (E_mod (E_var 0) (E_var 1)) (by first | with_reducible rfl | (simp only [bind_okS]; done) | (simp only [bind_okS, bind_ret]; done) | (simp only [bind_okS, bind_ret, bind_bind]; done) | exact congrArg _ (funext fun _ => congrArg _ (funext fun _ => congrArg ok (decide_eq_decide.mpr Iff.rfl)))))) fun one3 => (J_cons (S_set 3 (E_eq (E_var 1) (by first | with_reducible rfl | (simp only [bind_okS]; done) | (simp only [bind_okS, bind_ret]; done) | (simp only [bind_okS, bind_ret, bind_bind]; done) | exact congrArg _ (funext fun _ => congrArg _ (funext fun _ => congrArg ok (decide_eq_decide.mpr Iff.rfl)))))) fun two4 => (J_cons (S_set 4 (E_eq E_int (by first | with_reducible rfl | (simp only [bind_okS]; done) | (simp only [bind_okS, bind_ret]; done) | (simp only [bind_okS, bind_ret, bind_bind]; done) | exact congrArg _ (funext fun _ => congrArg _ (funext fun _ => congrArg ok (decide_eq_decide.mpr Iff.rfl)))))) fun first5 => (J_cons (S_set 5 (E_eq E_int (by first | with_reducible rfl | (simp only [bind_okS]; done) | (simp only [bind_okS, bind_ret]; done) | (simp only [bind_okS, bind_ret, bind_bind]; done) | exact congrArg _ (funext fun _ => congrArg _ (funext fun _ => congrArg ok (decide_eq_decide.mpr Iff.rfl)))))) fun second6 => (J_cons (S_while (Γl := fun s7 : Int × Int × Int × Int => [eD 1 tInt t.2.1, eD 2 tInt s7.1, eD 3 tInt s7.2.1, eD 4 tInt s7.2.2.1, eD 5 tInt s7.2.2.2]) [1, 2, 3, 4, 5] (one3, two4, first5, second6) (fun s7 => (B_eq (B_cmp op_gt (cp_gt _) (nomark _) (E_var 2) E_int) (by first | with_reducible rfl | (simp only [bind_okS]; done) | (simp only [bind_okS, bind_ret]; done) | (simp only [bind_okS, bind_ret, bind_bind]; done) | exact congrArg _ (funext fun _ => congrArg _ (funext fun _ => congrArg ok (decide_eq_decide.mpr Iff.rfl)))))) (fun s7 => (J_cons (S_set 6 (E_eq (E_div (E_var 3) (E_var 2)) (by first | with_reducible rfl | (simp only [bind_okS]; done) | (simp only [bind_okS, bind_ret]; done) | (simp only [bind_okS, bind_ret, bind_bind]; done) | exact congrArg _ (funext fun _ => congrArg _ (funext fun _ => congrArg ok (decide_eq_decide.mpr Iff.rfl)))))) fun part8 => (J_cons (S_eq (S_par 2 3 (by decide) (E_sub (E_var 3) (E_mul (E_var 6) (E_var 2))) (E_var 2)) (by first | with_reducible rfl | (simp only [bind_okS]; done) | (simp only [bind_okS, bind_ret]; done) | (simp only [bind_okS, bind_ret, bind_bind]; done) | exact congrArg _ (funext fun _ => congrArg _ (funext fun _ => congrArg ok (decide_eq_decide.mpr Iff.rfl))))) fun p10 => (J_cons (S_eq (S_par 4 5 (by decide) (E_sub (E_var 5) (E_mul (E_var 6) (E_var 4))) (E_var 4)) (by first | with_reducible rfl | (simp only [bind_okS]; done) | (simp only [bind_okS, bind_ret]; done) | (simp only [bind_okS, bind_ret, bind_bind]; done) | exact congrArg _ (funext fun _ => congrArg _ (funext fun _ => congrArg ok (decide_eq_decide.mpr Iff.rfl))))) fun p13 => (J_nil [1, 2, 3, 4, 5] (p10.1, p10.2, p13.1, p13.2))))))) fun s15 => (J_last (S_retT (E_eq (E_mod (E_var 4) (E_var 1)) (by first | with_reducible rfl | (simp only [bind_okS]; done) | (simp only [bind_okS, bind_ret]; done) | (simp only [bind_okS, bind_ret, bind_bind]; done) | exact congrArg _ (funext fun _ => congrArg _ (funext fun _ => congrArg ok (decide_eq_decide.mpr Iff.rfl))))))))))))
theorem sc_mod_poly : FnScope N_mod_poly ["row", "p"] (defScope s_mod_poly) := ⟨rfl, rfl, rfl, by decide +kernel, rfl, by decide +kernel, by decide +kernel⟩
theorem fx_mod_poly (T : Facts K mg) : Fx P w K mg base "mod_poly" 2 (.cons (tRow tInt) (.cons tInt .nil)) (dat (tRow tInt)) (fun t => m_mod_poly t.1 t.2.1) :=
  fx_ret N_mod_poly ["row", "p"] T.d_mod_poly sc_mod_poly rfl (fun _ _ _ _ _ _ us hl => match us, hl with | [_, _], _ => rfl) fun cdv f A outer s H E t => (by show JB _ _ _ _ _ _ (m_mod_poly t.1 t.2.1); unfold m_mod_poly; exact (J_last (S_retT (E_eq (E_call (fx_cut T) (Nat.le_of_ble_eq_true rfl) (A_cons (E_frz (E_comp (C_map (own := [("place", 2)]) (hok := (by first | (show blkC N_mod_poly (defScope s_mod_poly) _ _ = true; decide +kernel) | kernel_rfl)) (I_eq (I_tup (E_var 0)) (by first | with_reducible rfl | (simp only [bind_okS]; done) | (simp only [bind_okS, bind_ret]; done) | (simp only [bind_okS, bind_ret, bind_bind]; done) | exact congrArg _ (funext fun _ => congrArg _ (funext fun _ => congrArg ok (decide_eq_decide.mpr Iff.rfl))))) (fun _ _ _ _ _ => (G_name 2)) (fun _ _ _ _ _ place3 => (E_eq (E_mod (E_var 2) (E_var 1)) (by first | with_reducible rfl | (simp only [bind_okS]; done) | (simp only [bind_okS, bind_ret]; done) | (simp only [bind_okS, bind_ret, bind_bind]; done) | exact congrArg _ (funext fun _ => congrArg _ (funext fun _ => congrArg ok (decide_eq_decide.mpr Iff.rfl))))))))) fun _ => A_nil) [] rfl) (by first | with_reducible rfl | (simp only [bind_okS]; done) | (simp only [bind_okS, bind_ret]; done) | (simp only [bind_okS, bind_ret, bind_bind]; done) | exact congrArg _ (funext fun _ => congrArg _ (funext fun _ => congrArg ok (decide_eq_decide.mpr Iff.rfl))))))))
theorem sc_mod_parted : FnScope N_mod_parted ["a", "b", "p"] (defScope s_mod_parted) := ⟨rfl, rfl, rfl, by decide +kernel, rfl, by decide +kernel, by decide +kernel⟩
theorem fx_mod_parted (T : Facts K mg) : Fx P w K mg base "mod_parted" 3 (.cons (tRow tInt) (.cons (tRow tInt) (.cons tInt .nil))) (dat (tRec2 (tRow tInt) (tRow tInt))) (fun t => m_mod_parted t.1 t.2.1 t.2.2.1) :=
  fx_ret N_mod_parted ["a", "b", "p"] T.d_mod_parted sc_mod_parted rfl (fun _ _ _ _ _ _ us hl => match us, hl with | [_, _, _], _ => rfl) fun cdv f A outer s H E t => (J_cons (S_setO 3 (E_eq (E_listT T.n_list (E_call (fx_mod_poly T) (Nat.le_of_ble_eq_true rfl) (A_cons (E_var 0) fun _ => (A_cons (E_var 2) fun _ => A_nil)) [] rfl)) (by first | with_reducible rfl | (simp only [bind_okS]; done) | (simp only [bind_okS, bind_ret]; done) | (simp only [bind_okS, bind_ret, bind_bind]; done) | exact congrArg _ (funext fun _ => congrArg _ (funext fun _ => congrArg ok (decide_eq_decide.mpr Iff.rfl)))))) fun left4 => (J_cons (S_set 4 (E_eq (E_call (fx_mod_poly T) (Nat.le_of_ble_eq_true rfl) (A_cons (E_var 1) fun _ => (A_cons (E_var 2) fun _ => A_nil)) [] rfl) (by first | with_reducible rfl | (simp only [bind_okS]; done) | (simp only [bind_okS, bind_ret]; done) | (simp only [bind_okS, bind_ret, bind_bind]; done) | exact congrArg _ (funext fun _ => congrArg _ (funext fun _ => congrArg ok (decide_eq_decide.mpr Iff.rfl)))))) fun by_5 => (J_cons (S_set 5 (E_eq (E_sub (E_lenT T.n_len (E_var 4)) E_int) (by first | with_reducible rfl | (simp only [bind_okS]; done) | (simp only [bind_okS, bind_ret]; done) | (simp only [bind_okS, bind_ret, bind_bind]; done) | exact congrArg _ (funext fun _ => congrArg _ (funext fun _ => congrArg ok (decide_eq_decide.mpr Iff.rfl)))))) fun degree6 => (J_cons (S_set 6 (E_eq (E_call (fx_turned T) (Nat.le_of_ble_eq_true rfl) (A_cons (E_ixT (E_var 4) (E_var 5)) fun _ => (A_cons (E_var 2) fun _ => A_nil)) [] rfl) (by first | with_reducible rfl | (simp only [bind_okS]; done) | (simp only [bind_okS, bind_ret]; done) | (simp only [bind_okS, bind_ret, bind_bind]; done) | exact congrArg _ (funext fun _ => congrArg _ (funext fun _ => congrArg ok (decide_eq_decide.mpr Iff.rfl)))))) fun back7 => (J_cons (S_setO 7 (E_eq (E_eq (E_lst I_nil) (psz_w (xs := ([] : List Int)) rfl)) (by first | with_reducible rfl | (simp only [bind_okS]; done) | (simp only [bind_okS, bind_ret]; done) | (simp only [bind_okS, bind_ret, bind_bind]; done) | exact congrArg _ (funext fun _ => congrArg _ (funext fun _ => congrArg ok (decide_eq_decide.mpr Iff.rfl)))))) fun quotient9 => (J_cons (S_for (Γl := fun s10 : (List Int) × (List Int) => [eD 2 tInt t.2.2.1, eO 3 tInt s10.1, eD 4 (tRow tInt) by_5, eD 5 tInt degree6, eD 6 tInt back7, eO 7 tInt s10.2]) [2, 3, 4, 5, 6, 7] (left4, quotient9) (I_eq (I_rangeD T.n_range (E_sub (E_sub (E_lenL T.n_len (E_own 3)) E_int) (E_var 5)) (E_neg E_int)) (by first | with_reducible rfl | (simp only [bind_okS]; done) | (simp only [bind_okS, bind_ret]; done) | (simp only [bind_okS, bind_ret, bind_bind]; done) | exact congrArg _ (funext fun _ => congrArg _ (funext fun _ => congrArg ok (decide_eq_decide.mpr Iff.rfl))))) (G_name 8) (fun s10 at_11 => (J_cons (S_set 9 (E_eq (E_mod (E_mul (E_ixL (E_own 3) (E_add (E_var 8) (E_var 5))) (E_var 6)) (E_var 2)) (by first | with_reducible rfl | (simp only [bind_okS]; done) | (simp only [bind_okS, bind_ret]; done) | (simp only [bind_okS, bind_ret, bind_bind]; done) | exact congrArg _ (funext fun _ => congrArg _ (funext fun _ => congrArg ok (decide_eq_decide.mpr Iff.rfl)))))) fun part12 => (J_cons (S_eq (S_append 7 (E_var 9)) (by first | with_reducible rfl | (simp only [bind_okS]; done) | (simp only [bind_okS, bind_ret]; done) | (simp only [bind_okS, bind_ret, bind_bind]; done) | exact congrArg _ (funext fun _ => congrArg _ (funext fun _ => congrArg ok (decide_eq_decide.mpr Iff.rfl))))) fun quotient15 => (J_cons (S_for (Γl := fun left16 : (List Int) => [eD 2 tInt t.2.2.1, eO 3 tInt left16, eD 4 (tRow tInt) by_5, eD 5 tInt degree6, eD 6 tInt back7, eO 7 tInt quotient15, eD 8 tInt at_11, eD 9 tInt part12]) [2, 3, 4, 5, 6, 7, 8, 9] (s10.1) (I_eq (I_rangeI T.n_range (E_add (E_var 5) E_int)) (by first | with_reducible rfl | (simp only [bind_okS]; done) | (simp only [bind_okS, bind_ret]; done) | (simp only [bind_okS, bind_ret, bind_bind]; done) | exact congrArg _ (funext fun _ => congrArg _ (funext fun _ => congrArg ok (decide_eq_decide.mpr Iff.rfl))))) (G_name 10) (fun left16 j17 => (J_cons (S_eq (S_store 3 (E_mod (E_sub (E_ixL (E_own 3) (E_add (E_var 8) (E_var 10))) (E_mul (E_var 9) (E_ixT (E_var 4) (E_var 10)))) (E_var 2)) (E_add (E_var 8) (E_var 10))) (by first | with_reducible rfl | (simp only [bind_okS]; done) | (simp only [bind_okS, bind_ret]; done) | (simp only [bind_okS, bind_ret, bind_bind]; done) | exact congrArg _ (funext fun _ => congrArg _ (funext fun _ => congrArg ok (decide_eq_decide.mpr Iff.rfl))))) fun left22 => (J_nil [2, 3, 4, 5, 6, 7, 8, 9] (left22))))) fun left24 => (J_nil [2, 3, 4, 5, 6, 7] (left24, quotient15))))))) fun s25 => (J_last (S_retT (E_eq (E_rec2 (A_cons (E_call (fx_cut T) (Nat.le_of_ble_eq_true rfl) (A_cons (E_frz (E_revL (E_own 7))) fun _ => A_nil) [] rfl) fun _ => (A_cons (E_call (fx_cut T) (Nat.le_of_ble_eq_true rfl) (A_cons (E_frz (E_slL (E_own 3) O_none (O_some (E_var 5)))) fun _ => A_nil) [] rfl) fun _ => A_nil))) (by first | with_reducible rfl | (simp only [bind_okS]; done) | (simp only [bind_okS, bind_ret]; done) | (simp only [bind_okS, bind_ret, bind_bind]; done) | exact congrArg _ (funext fun _ => congrArg _ (funext fun _ => congrArg ok (decide_eq_decide.mpr Iff.rfl)))))))))))))
theorem sc_mod_at : FnScope N_mod_at ["f", "x", "p"] (defScope s_mod_at) := ⟨rfl, rfl, rfl, by decide +kernel, rfl, by decide +kernel, by decide +kernel⟩
theorem fx_mod_at (T : Facts K mg) : Fx P w K mg base "mod_at" 1 (.cons (tRow tInt) (.cons tInt (.cons tInt .nil))) (dat tInt) (fun t => m_mod_at t.1 t.2.1 t.2.2.1) :=
  fx_ret N_mod_at ["f", "x", "p"] T.d_mod_at sc_mod_at rfl (fun _ _ _ _ _ _ us hl => match us, hl with | [_, _, _], _ => rfl) fun cdv f A outer s H E t => (J_cons (S_set 3 (E_eq E_int (by first | with_reducible rfl | (simp only [bind_okS]; done) | (simp only [bind_okS, bind_ret]; done) | (simp only [bind_okS, bind_ret, bind_bind]; done) | exact congrArg _ (funext fun _ => congrArg _ (funext fun _ => congrArg ok (decide_eq_decide.mpr Iff.rfl)))))) fun value4 => (J_cons (S_for (Γl := fun value5 : Int => [eD 1 tInt t.2.1, eD 2 tInt t.2.2.1, eD 3 tInt value5]) [1, 2, 3] (value4) (I_eq (I_revT T.n_reversed (E_var 0)) (by first | with_reducible rfl | (simp only [bind_okS]; done) | (simp only [bind_okS, bind_ret]; done) | (simp only [bind_okS, bind_ret, bind_bind]; done) | exact congrArg _ (funext fun _ => congrArg _ (funext fun _ => congrArg ok (decide_eq_decide.mpr Iff.rfl))))) (G_name 4) (fun value5 place6 => (J_cons (S_set 3 (E_eq (E_mod (E_add (E_mul (E_var 3) (E_var 1)) (E_var 4)) (E_var 2)) (by first | with_reducible rfl | (simp only [bind_okS]; done) | (simp only [bind_okS, bind_ret]; done) | (simp only [bind_okS, bind_ret, bind_bind]; done) | exact congrArg _ (funext fun _ => congrArg _ (funext fun _ => congrArg ok (decide_eq_decide.mpr Iff.rfl)))))) fun value7 => (J_nil [1, 2, 3] (value7))))) fun value10 => (J_last (S_retT (E_eq (E_var 3) (by first | with_reducible rfl | (simp only [bind_okS]; done) | (simp only [bind_okS, bind_ret]; done) | (simp only [bind_okS, bind_ret, bind_bind]; done) | exact congrArg _ (funext fun _ => congrArg _ (funext fun _ => congrArg ok (decide_eq_decide.mpr Iff.rfl)))))))))
theorem sc_pair_of : FnScope N_pair_of ["left", "p"] (defScope s_pair_of) := ⟨rfl, rfl, rfl, by decide +kernel, rfl, by decide +kernel, by decide +kernel⟩
theorem fx_pair_of (T : Facts K mg) : Fx P w K mg base "pair_of" 2 (.cons (tRow tInt) (.cons tInt .nil)) (dat (tOpt (tLst (tRow tInt)))) (fun t => m_pair_of t.1 t.2.1) :=
  fx_ret N_pair_of ["left", "p"] T.d_pair_of sc_pair_of rfl (fun _ _ _ _ _ _ us hl => match us, hl with | [_, _], _ => rfl) fun cdv f A outer s H E t => (J_cons (S_unpack (G_rec4K K (G_name 2) (G_name 3) (G_name 4) (G_name 5)) (E_eq (E_asRec4 (E_slT (E_var 0) O_none (O_some E_int))) (by first | with_reducible rfl | (simp only [bind_okS]; done) | (simp only [bind_okS, bind_ret]; done) | (simp only [bind_okS, bind_ret, bind_bind]; done) | exact congrArg _ (funext fun _ => congrArg _ (funext fun _ => congrArg ok (decide_eq_decide.mpr Iff.rfl)))))) fun p3 => (J_fl (fun a => a) (S_forF (Γl := fun s4 : Unit => [eD 1 tInt t.2.1, eD 2 tInt p3.1, eD 3 tInt p3.2.1, eD 4 tInt p3.2.2.1, eD 5 tInt p3.2.2.2]) [1, 2, 3, 4, 5] () (I_eq (I_range2 T.n_range E_int (E_var 1)) (by first | with_reducible rfl | (simp only [bind_okS]; done) | (simp only [bind_okS, bind_ret]; done) | (simp only [bind_okS, bind_ret, bind_bind]; done) | exact congrArg _ (funext fun _ => congrArg _ (funext fun _ => congrArg ok (decide_eq_decide.mpr Iff.rfl))))) (G_name 6) (fun s4 b5 => (J_cons (S_set 7 (E_eq (E_mod (E_mul (E_var 2) (E_call (fx_turned T) (Nat.le_of_ble_eq_true rfl) (A_cons (E_var 6) fun _ => (A_cons (E_var 1) fun _ => A_nil)) [] rfl)) (E_var 1)) (by first | with_reducible rfl | (simp only [bind_okS]; done) | (simp only [bind_okS, bind_ret]; done) | (simp only [bind_okS, bind_ret, bind_bind]; done) | exact congrArg _ (funext fun _ => congrArg _ (funext fun _ => congrArg ok (decide_eq_decide.mpr Iff.rfl)))))) fun d6 => (J_last (S_if (B_eq (B_cmp op_ne (cp_ne _) (nomark _) (E_var 6) (E_var 7)) (by first | with_reducible rfl | (simp only [bind_okS]; done) | (simp only [bind_okS, bind_ret]; done) | (simp only [bind_okS, bind_ret, bind_bind]; done) | exact congrArg _ (funext fun _ => congrArg _ (funext fun _ => congrArg ok (decide_eq_decide.mpr Iff.rfl))))) (J_cons (S_set 8 (E_eq (E_mod (E_mul (E_sub (E_var 3) (E_mul (E_var 6) (E_var 5))) (E_call (fx_turned T) (Nat.le_of_ble_eq_true rfl) (A_cons (E_sub (E_var 7) (E_var 6)) fun _ => (A_cons (E_var 1) fun _ => A_nil)) [] rfl)) (E_var 1)) (by first | with_reducible rfl | (simp only [bind_okS]; done) | (simp only [bind_okS, bind_ret]; done) | (simp only [bind_okS, bind_ret, bind_bind]; done) | exact congrArg _ (funext fun _ => congrArg _ (funext fun _ => congrArg ok (decide_eq_decide.mpr Iff.rfl)))))) fun a10 => (J_last (S_if (B_eq (B_cmp op_eq (cp_eq _) (nomark _) (E_mod (E_sub (E_add (E_add (E_mul (E_var 8) (E_sub (E_var 5) (E_var 8))) (E_var 6)) (E_var 7)) (E_var 4)) (E_var 1)) E_int) (by first | with_reducible rfl | (simp only [bind_okS]; done) | (simp only [bind_okS, bind_ret]; done) | (simp only [bind_okS, bind_ret, bind_bind]; done) | exact congrArg _ (funext fun _ => congrArg _ (funext fun _ => congrArg ok (decide_eq_decide.mpr Iff.rfl))))) (J_last (S_ret (fun a => Fl.rt a) (E_eq (E_some (by intro K H x v h; first | exact nn_row h | exact nn_rec2 h | exact nn_int h | exact nn_lst h | exact nn_rec3 h | exact nn_obj h) (E_frz (E_lst (I_cons (E_eq (E_row (I_cons (E_var 6) fun _ => (I_cons (E_var 8) fun _ => (I_cons E_int fun _ => I_nil)))) (psz_w (xs := [b5, a10, 1]) rfl)) fun _ => (I_cons (E_row (I_cons (E_var 7) fun _ => (I_cons (E_mod (E_sub (E_var 5) (E_var 8)) (E_var 1)) fun _ => (I_cons E_int fun _ => I_nil)))) fun _ => I_nil))))) (by first | with_reducible rfl | (simp only [bind_okS]; done) | (simp only [bind_okS, bind_ret]; done) | (simp only [bind_okS, bind_ret, bind_bind]; done) | exact congrArg _ (funext fun _ => congrArg _ (funext fun _ => congrArg ok (decide_eq_decide.mpr Iff.rfl))))))) (J_nil [1, 2, 3, 4, 5] (Fl.nx ()))))) (J_last (S_if (B_eq (B_cmp op_eq (cp_eq _) (nomark _) (E_mod (E_sub (E_var 3) (E_mul (E_var 6) (E_var 5))) (E_var 1)) E_int) (by first | with_reducible rfl | (simp only [bind_okS]; done) | (simp only [bind_okS, bind_ret]; done) | (simp only [bind_okS, bind_ret, bind_bind]; done) | exact congrArg _ (funext fun _ => congrArg _ (funext fun _ => congrArg ok (decide_eq_decide.mpr Iff.rfl))))) (J_fl (fun a => Fl.rt a) (S_forF (Γl := fun s29 : Unit => [eD 1 tInt t.2.1, eD 2 tInt p3.1, eD 3 tInt p3.2.1, eD 4 tInt p3.2.2.1, eD 5 tInt p3.2.2.2, eD 6 tInt b5, eD 7 tInt d6]) [1, 2, 3, 4, 5, 6, 7] () (I_eq (I_rangeI T.n_range (E_var 1)) (by first | with_reducible rfl | (simp only [bind_okS]; done) | (simp only [bind_okS, bind_ret]; done) | (simp only [bind_okS, bind_ret, bind_bind]; done) | exact congrArg _ (funext fun _ => congrArg _ (funext fun _ => congrArg ok (decide_eq_decide.mpr Iff.rfl))))) (G_name 8) (fun s29 a30 => (J_last (S_if (B_eq (B_cmp op_eq (cp_eq _) (nomark _) (E_mod (E_sub (E_add (E_add (E_mul (E_var 8) (E_sub (E_var 5) (E_var 8))) (E_var 6)) (E_var 7)) (E_var 4)) (E_var 1)) E_int) (by first | with_reducible rfl | (simp only [bind_okS]; done) | (simp only [bind_okS, bind_ret]; done) | (simp only [bind_okS, bind_ret, bind_bind]; done) | exact congrArg _ (funext fun _ => congrArg _ (funext fun _ => congrArg ok (decide_eq_decide.mpr Iff.rfl))))) (J_last (S_ret (fun a => Fl.rt a) (E_eq (E_some (by intro K H x v h; first | exact nn_row h | exact nn_rec2 h | exact nn_int h | exact nn_lst h | exact nn_rec3 h | exact nn_obj h) (E_frz (E_lst (I_cons (E_eq (E_row (I_cons (E_var 6) fun _ => (I_cons (E_var 8) fun _ => (I_cons E_int fun _ => I_nil)))) (psz_w (xs := [b5, a30, 1]) rfl)) fun _ => (I_cons (E_row (I_cons (E_var 7) fun _ => (I_cons (E_mod (E_sub (E_var 5) (E_var 8)) (E_var 1)) fun _ => (I_cons E_int fun _ => I_nil)))) fun _ => I_nil))))) (by first | with_reducible rfl | (simp only [bind_okS]; done) | (simp only [bind_okS, bind_ret]; done) | (simp only [bind_okS, bind_ret, bind_bind]; done) | exact congrArg _ (funext fun _ => congrArg _ (funext fun _ => congrArg ok (decide_eq_decide.mpr Iff.rfl))))))) (J_nil [1, 2, 3, 4, 5, 6, 7] (Fl.nx ())))))) fun s41 => (J_nil [1, 2, 3, 4, 5] (Fl.nx ()))) (J_nil [1, 2, 3, 4, 5] (Fl.nx ()))))))))) fun s42 => (J_last (S_retT (E_eq (E_noneO (A := (tLst (tRow tInt)))) (by first | with_reducible rfl | (simp only [bind_okS]; done) | (simp only [bind_okS, bind_ret]; done) | (simp only [bind_okS, bind_ret, bind_bind]; done) | exact congrArg _ (funext fun _ => congrArg _ (funext fun _ => congrArg ok (decide_eq_decide.mpr Iff.rfl)))))))))
theorem sc_rootless : FnScope N_rootless ["left", "p"] (defScope s_rootless) := ⟨rfl, rfl, rfl, by decide +kernel, rfl, by decide +kernel, by decide +kernel⟩
theorem fx_rootless (T : Facts K mg) : Fx P w K mg base "rootless" 3 (.cons (tRow tInt) (.cons tInt .nil)) (own (tRec2 (tRow tInt) tInt)) (fun t => m_rootless t.1 t.2.1) :=
  fx_ret N_rootless ["left", "p"] T.d_rootless sc_rootless rfl (fun _ _ _ _ _ _ us hl => match us, hl with | [_, _], _ => rfl) fun cdv f A outer s H E t => (J_cons (S_set 2 (E_eq (E_noneO (A := (tLst (tRow tInt)))) (by first | with_reducible rfl | (simp only [bind_okS]; done) | (simp only [bind_okS, bind_ret]; done) | (simp only [bind_okS, bind_ret, bind_bind]; done) | exact congrArg _ (funext fun _ => congrArg _ (funext fun _ => congrArg ok (decide_eq_decide.mpr Iff.rfl)))))) fun pair3 => (J_cons (Γ1 := fun pair6 : (Option (List (List Int))) => [eD 0 (tRow tInt) t.1, eD 2 (tOpt (tLst (tRow tInt))) pair6]) (S_if (B_eq (B_cmp op_eq (cp_eq _) (nomark _) (E_lenT T.n_len (E_var 0)) E_int) (by first | with_reducible rfl | (simp only [bind_okS]; done) | (simp only [bind_okS, bind_ret]; done) | (simp only [bind_okS, bind_ret, bind_bind]; done) | exact congrArg _ (funext fun _ => congrArg _ (funext fun _ => congrArg ok (decide_eq_decide.mpr Iff.rfl))))) (J_cons (S_set 2 (E_eq (E_call (fx_pair_of T) (Nat.le_of_ble_eq_true rfl) (A_cons (E_var 0) fun _ => (A_cons (E_var 1) fun _ => A_nil)) [] rfl) (by first | with_reducible rfl | (simp only [bind_okS]; done) | (simp only [bind_okS, bind_ret]; done) | (simp only [bind_okS, bind_ret, bind_bind]; done) | exact congrArg _ (funext fun _ => congrArg _ (funext fun _ => congrArg ok (decide_eq_decide.mpr Iff.rfl)))))) fun pair5 => (J_nil [0, 2] (pair5))) (J_nil [0, 2] (pair3))) fun pair6 => (J_ifrT (B_eq (B_isN (E_var 2) E_none) (by first | with_reducible rfl | (simp only [bind_okS]; done) | (simp only [bind_okS, bind_ret]; done) | (simp only [bind_okS, bind_ret, bind_bind]; done) | exact congrArg _ (funext fun _ => congrArg _ (funext fun _ => congrArg ok (decide_eq_decide.mpr Iff.rfl))))) (J_last (S_retT (E_eq (E_eq (E_lst (I_cons (E_rec2 (A_cons (E_var 0) fun _ => (A_cons E_int fun _ => A_nil))) fun _ => I_nil)) (psz_w (xs := [(t.1, 1)]) rfl)) (by first | with_reducible rfl | (simp only [bind_okS]; done) | (simp only [bind_okS, bind_ret]; done) | (simp only [bind_okS, bind_ret, bind_bind]; done) | exact congrArg _ (funext fun _ => congrArg _ (funext fun _ => congrArg ok (decide_eq_decide.mpr Iff.rfl))))))) (J_ifrT (B_eq (B_eqP (eRow eInt) (repD_dat (eRow eInt)) (repD_dat (eRow eInt)) (by decide) (E_ixL (E_bor (E_unO (E_var 2))) E_int) (E_ixL (E_bor (E_unO (E_var 2))) E_int)) (by first | with_reducible rfl | (simp only [bind_okS]; done) | (simp only [bind_okS, bind_ret]; done) | (simp only [bind_okS, bind_ret, bind_bind]; done) | exact congrArg _ (funext fun _ => congrArg _ (funext fun _ => congrArg ok (decide_eq_decide.mpr Iff.rfl))))) (J_last (S_retT (E_eq (E_lst (I_cons (E_rec2 (A_cons (E_ixL (E_bor (E_unO (E_var 2))) E_int) fun _ => (A_cons E_int fun _ => A_nil))) fun _ => I_nil)) (by first | with_reducible rfl | (simp only [bind_okS]; done) | (simp only [bind_okS, bind_ret]; done) | (simp only [bind_okS, bind_ret, bind_bind]; done) | exact congrArg _ (funext fun _ => congrArg _ (funext fun _ => congrArg ok (decide_eq_decide.mpr Iff.rfl))))))) (J_last (S_retT (E_eq (E_comp (C_map (own := [("g", 3)]) (hok := (by first | (show blkC N_rootless (defScope s_rootless) _ _ = true; decide +kernel) | kernel_rfl)) (I_eq (I_list (E_frz (E_sortT T.n_sorted (E_bor (E_unO (E_var 2)))))) (by first | with_reducible rfl | (simp only [bind_okS]; done) | (simp only [bind_okS, bind_ret]; done) | (simp only [bind_okS, bind_ret, bind_bind]; done) | exact congrArg _ (funext fun _ => congrArg _ (funext fun _ => congrArg ok (decide_eq_decide.mpr Iff.rfl))))) (fun _ _ _ _ _ => (G_name 3)) (fun _ _ _ _ _ g17 => (E_eq (E_rec2 (A_cons (E_var 3) fun _ => (A_cons E_int fun _ => A_nil))) (by first | with_reducible rfl | (simp only [bind_okS]; done) | (simp only [bind_okS, bind_ret]; done) | (simp only [bind_okS, bind_ret, bind_bind]; done) | exact congrArg _ (funext fun _ => congrArg _ (funext fun _ => congrArg ok (decide_eq_decide.mpr Iff.rfl)))))))) (by first | with_reducible rfl | (simp only [bind_okS]; done) | (simp only [bind_okS, bind_ret]; done) | (simp only [bind_okS, bind_ret, bind_bind]; done) | exact congrArg _ (funext fun _ => congrArg _ (funext fun _ => congrArg ok (decide_eq_decide.mpr Iff.rfl)))))))))))
theorem sc_split_by : FnScope N_split_by ["poly", "p"] (defScope s_split_by) := ⟨rfl, rfl, rfl, by decide +kernel, rfl, by decide +kernel, by decide +kernel⟩
theorem fx_split_by (T : Facts K mg) : Fx P w K mg base "split_by" 4 (.cons (tRow tInt) (.cons tInt .nil)) (own (tRec2 (tRow tInt) tInt)) (fun t => m_split_by t.1 t.2.1) :=
  fx_ret N_split_by ["poly", "p"] T.d_split_by sc_split_by rfl (fun _ _ _ _ _ _ us hl => match us, hl with | [_, _], _ => rfl) fun cdv f A outer s H E t => (J_ifrT (B_eq (B_niT eInt (by decide) (E_var 1) (E_glob T.g_PRIMES)) (by first | with_reducible rfl | (simp only [bind_okS]; done) | (simp only [bind_okS, bind_ret]; done) | (simp only [bind_okS, bind_ret, bind_bind]; done) | exact congrArg _ (funext fun _ => congrArg _ (funext fun _ => congrArg ok (decide_eq_decide.mpr Iff.rfl))))) (J_last (S_raise T.x_NoPrime [])) (J_cons (S_set 2 (E_eq (E_call (fx_mod_poly T) (Nat.le_of_ble_eq_true rfl) (A_cons (E_var 0) fun _ => (A_cons (E_var 1) fun _ => A_nil)) [] rfl) (by first | with_reducible rfl | (simp only [bind_okS]; done) | (simp only [bind_okS, bind_ret]; done) | (simp only [bind_okS, bind_ret, bind_bind]; done) | exact congrArg _ (funext fun _ => congrArg _ (funext fun _ => congrArg ok (decide_eq_decide.mpr Iff.rfl)))))) fun left4 => (J_cons (S_setO 3 (E_eq (E_eq (E_lst I_nil) (psz_w (xs := ([] : List ((List Int) × Int))) rfl)) (by first | with_reducible rfl | (simp only [bind_okS]; done) | (simp only [bind_okS, bind_ret]; done) | (simp only [bind_okS, bind_ret, bind_bind]; done) | exact congrArg _ (funext fun _ => congrArg _ (funext fun _ => congrArg ok (decide_eq_decide.mpr Iff.rfl)))))) fun parts5 => (J_cons (S_for (Γl := fun s6 : (List Int) × (List ((List Int) × Int)) => [eD 1 tInt t.2.1, eD 2 (tRow tInt) s6.1, eO 3 (tRec2 (tRow tInt) tInt) s6.2]) [1, 2, 3] (left4, parts5) (I_eq (I_rangeI T.n_range (E_var 1)) (by first | with_reducible rfl | (simp only [bind_okS]; done) | (simp only [bind_okS, bind_ret]; done) | (simp only [bind_okS, bind_ret, bind_bind]; done) | exact congrArg _ (funext fun _ => congrArg _ (funext fun _ => congrArg ok (decide_eq_decide.mpr Iff.rfl))))) (G_name 4) (fun s6 low7 => (J_cons (S_set 5 (E_eq E_int (by first | with_reducible rfl | (simp only [bind_okS]; done) | (simp only [bind_okS, bind_ret]; done) | (simp only [bind_okS, bind_ret, bind_bind]; done) | exact congrArg _ (funext fun _ => congrArg _ (funext fun _ => congrArg ok (decide_eq_decide.mpr Iff.rfl)))))) fun often8 => (J_cons (S_while (Γl := fun s9 : (List Int) × Int => [eD 1 tInt t.2.1, eD 2 (tRow tInt) s9.1, eO 3 (tRec2 (tRow tInt) tInt) s6.2, eD 4 tInt low7, eD 5 tInt s9.2]) [1, 2, 3, 4, 5] (s6.1, often8) (fun s9 => (B_eq (B_w (W_and (B_cmp op_gt (cp_gt _) (nomark _) (E_lenT T.n_len (E_var 2)) E_int) (W_and1 (B_cmp op_eq (cp_eq _) (nomark _) (E_call (fx_mod_at T) (Nat.le_of_ble_eq_true rfl) (A_cons (E_var 2) fun _ => (A_cons (E_neg (E_var 4)) fun _ => (A_cons (E_var 1) fun _ => A_nil))) [] rfl) E_int)))) (by first | with_reducible rfl | (simp only [bind_okS]; done) | (simp only [bind_okS, bind_ret]; done) | (simp only [bind_okS, bind_ret, bind_bind]; done) | exact congrArg _ (funext fun _ => congrArg _ (funext fun _ => congrArg ok (decide_eq_decide.mpr Iff.rfl)))))) (fun s9 => (J_cons (S_set 2 (E_eq (E_fst (E_call (fx_mod_parted T) (Nat.le_of_ble_eq_true rfl) (A_cons (E_var 2) fun _ => (A_cons (E_eq (E_row (I_cons (E_var 4) fun _ => (I_cons E_int fun _ => I_nil))) (psz_w (xs := [low7, 1]) rfl)) fun _ => (A_cons (E_var 1) fun _ => A_nil))) [] rfl) E_int) (by first | with_reducible rfl | (simp only [bind_okS]; done) | (simp only [bind_okS, bind_ret]; done) | (simp only [bind_okS, bind_ret, bind_bind]; done) | exact congrArg _ (funext fun _ => congrArg _ (funext fun _ => congrArg ok (decide_eq_decide.mpr Iff.rfl)))))) fun left12 => (J_cons (S_eq (S_aug 5 ip2_add nxok2 E_int) (by first | with_reducible rfl | (simp only [bind_okS]; done) | (simp only [bind_okS, bind_ret]; done) | (simp only [bind_okS, bind_ret, bind_bind]; done) | exact congrArg _ (funext fun _ => congrArg _ (funext fun _ => congrArg ok (decide_eq_decide.mpr Iff.rfl))))) fun often14 => (J_nil [1, 2, 3, 4, 5] (left12, often14)))))) fun s15 => (J_last (S_if (B_eq (B_cmp op_gt (cp_gt _) (nomark _) (E_var 5) E_int) (by first | with_reducible rfl | (simp only [bind_okS]; done) | (simp only [bind_okS, bind_ret]; done) | (simp only [bind_okS, bind_ret, bind_bind]; done) | exact congrArg _ (funext fun _ => congrArg _ (funext fun _ => congrArg ok (decide_eq_decide.mpr Iff.rfl))))) (J_cons (S_eq (S_append 3 (E_rec2 (A_cons (E_eq (E_row (I_cons (E_var 4) fun _ => (I_cons E_int fun _ => I_nil))) (psz_w (xs := [low7, 1]) rfl)) fun _ => (A_cons (E_var 5) fun _ => A_nil)))) (by first | with_reducible rfl | (simp only [bind_okS]; done) | (simp only [bind_okS, bind_ret]; done) | (simp only [bind_okS, bind_ret, bind_bind]; done) | exact congrArg _ (funext fun _ => congrArg _ (funext fun _ => congrArg ok (decide_eq_decide.mpr Iff.rfl))))) fun parts17 => (J_nil [1, 2, 3] (s15.1, parts17))) (J_nil [1, 2, 3] (s15.1, s6.2)))))))) fun s18 => (J_cons (Γ1 := fun parts22 : (List ((List Int) × Int)) => [eO 3 (tRec2 (tRow tInt) tInt) parts22]) (S_if (B_eq (B_cmp op_gt (cp_gt _) (nomark _) (E_lenT T.n_len (E_var 2)) E_int) (by first | with_reducible rfl | (simp only [bind_okS]; done) | (simp only [bind_okS, bind_ret]; done) | (simp only [bind_okS, bind_ret, bind_bind]; done) | exact congrArg _ (funext fun _ => congrArg _ (funext fun _ => congrArg ok (decide_eq_decide.mpr Iff.rfl))))) (J_cons (S_setO 3 (E_eq (E_cat (E_ownT 3) (E_borTF (E_call (fx_rootless T) (Nat.le_of_ble_eq_true rfl) (A_cons (E_var 2) fun _ => (A_cons (E_var 1) fun _ => A_nil)) [] rfl))) (by first | with_reducible rfl | (simp only [bind_okS]; done) | (simp only [bind_okS, bind_ret]; done) | (simp only [bind_okS, bind_ret, bind_bind]; done) | exact congrArg _ (funext fun _ => congrArg _ (funext fun _ => congrArg ok (decide_eq_decide.mpr Iff.rfl)))))) fun parts20 => (J_nil [3] (parts20))) (J_nil [3] (s18.2))) fun parts22 => (J_last (S_retO 3 (fun a => a))))))))
theorem sc_stays : FnScope N_stays ["poly", "p"] (defScope s_stays) := ⟨rfl, rfl, rfl, by decide +kernel, rfl, by decide +kernel, by decide +kernel⟩
theorem fx_stays (T : Facts K mg) : Fx P w K mg base "stays" 5 (.cons (tRow tInt) (.cons tInt .nil)) (dat tBool) (fun t => m_stays t.1 t.2.1) :=
  fx_ret N_stays ["poly", "p"] T.d_stays sc_stays rfl (fun _ _ _ _ _ _ us hl => match us, hl with | [_, _], _ => rfl) fun cdv f A outer s H E t => (J_cons (S_set 2 (E_eq (E_frz (E_call (fx_split_by T) (Nat.le_of_ble_eq_true rfl) (A_cons (E_var 0) fun _ => (A_cons (E_var 1) fun _ => A_nil)) [] rfl)) (by first | with_reducible rfl | (simp only [bind_okS]; done) | (simp only [bind_okS, bind_ret]; done) | (simp only [bind_okS, bind_ret, bind_bind]; done) | exact congrArg _ (funext fun _ => congrArg _ (funext fun _ => congrArg ok (decide_eq_decide.mpr Iff.rfl)))))) fun parts3 => (J_last (S_retT (E_eq (E_and (E_cmp op_eq (cp_eq _) (nomark _) (E_lenL T.n_len (E_bor (E_var 2))) E_int) (E_one (E_cmp op_eq (cp_eq _) (nomark _) (E_snd (E_ixL (E_bor (E_var 2)) E_int) E_int) E_int))) (by first | with_reducible rfl | (simp only [bind_okS]; done) | (simp only [bind_okS, bind_ret]; done) | (simp only [bind_okS, bind_ret, bind_bind]; done) | exact congrArg _ (funext fun _ => congrArg _ (funext fun _ => congrArg ok (decide_eq_decide.mpr Iff.rfl))))))))
theorem sc__law_mixed : FnScope N__law_mixed ["_law_cell_here", "_law_k", "_law_prime_here"] (defScope s__law_mixed) := ⟨rfl, rfl, rfl, by decide +kernel, rfl, by decide +kernel, by decide +kernel⟩
theorem fx__law_mixed (T : Facts K mg) : Fx P w K mg base "_law_mixed" 1 (.cons tInt (.cons tInt (.cons tInt .nil))) (dat tInt) (fun t => m__law_mixed t.1 t.2.1 t.2.2.1) :=
  fx_ret N__law_mixed ["_law_cell_here", "_law_k", "_law_prime_here"] T.d__law_mixed sc__law_mixed rfl (fun _ _ _ _ _ _ us hl => match us, hl with | [_, _, _], _ => rfl) fun cdv f A outer s H E t => (J_cons (S_set 3 (E_eq (E_modR (by decide) (E_mulR (by decide) (E_add (E_add (E_add (E_var 0) (E_mul (E_mulL (by decide) E_int (E_var 1)) (E_var 1))) (E_mulL (by decide) E_int (E_var 1))) E_int) E_int) E_int) (by first | with_reducible rfl | (simp only [bind_okS]; done) | (simp only [bind_okS, bind_ret]; done) | (simp only [bind_okS, bind_ret, bind_bind]; done) | exact congrArg _ (funext fun _ => congrArg _ (funext fun _ => congrArg ok (decide_eq_decide.mpr Iff.rfl)))))) fun far_here4 => (J_cons (S_set 3 (E_eq (E_modR (by decide) (E_mul (E_var 3) (E_var 3)) E_int) (by first | with_reducible rfl | (simp only [bind_okS]; done) | (simp only [bind_okS, bind_ret]; done) | (simp only [bind_okS, bind_ret, bind_bind]; done) | exact congrArg _ (funext fun _ => congrArg _ (funext fun _ => congrArg ok (decide_eq_decide.mpr Iff.rfl)))))) fun far_here10 => (J_last (S_retT (E_eq (E_mod (E_mulR (by decide) (E_var 3) E_int) (E_var 2)) (by first | with_reducible rfl | (simp only [bind_okS]; done) | (simp only [bind_okS, bind_ret]; done) | (simp only [bind_okS, bind_ret, bind_bind]; done) | exact congrArg _ (funext fun _ => congrArg _ (funext fun _ => congrArg ok (decide_eq_decide.mpr Iff.rfl)))))))))
theorem sc__law_draws : FnScope N__law_draws ["_law_cell_here", "_law_widths", "_law_prime_here"] (defScope s__law_draws) := ⟨rfl, rfl, rfl, by decide +kernel, rfl, by decide +kernel, by decide +kernel⟩
theorem fx__law_draws (T : Facts K mg) : Fx P w K mg base "_law_draws" 2 (.cons tInt (.cons (tLst tInt) (.cons tInt .nil))) (own tInt) (fun t => m__law_draws t.1 t.2.1 t.2.2.1) :=
  fx_ret N__law_draws ["_law_cell_here", "_law_widths", "_law_prime_here"] T.d__law_draws sc__law_draws rfl (fun _ _ _ _ _ _ us hl => match us, hl with | [_, _, _], _ => rfl) fun cdv f A outer s H E t => (J_cons (S_set 3 (E_eq E_int (by first | with_reducible rfl | (simp only [bind_okS]; done) | (simp only [bind_okS, bind_ret]; done) | (simp only [bind_okS, bind_ret, bind_bind]; done) | exact congrArg _ (funext fun _ => congrArg _ (funext fun _ => congrArg ok (decide_eq_decide.mpr Iff.rfl)))))) fun left4 => (J_cons (Γ1 := fun left7 : Int => [eD 0 tInt t.1, eD 1 (tLst tInt) t.2.1, eD 2 tInt t.2.2.1, eD 3 tInt left7]) (S_if (B_eq (B_cmp op_ge (cp_ge _) (nomark _) (E_var 0) (E_powK (c := 1000000000000000000) 18 (by decide) (by decide) (by decide +kernel) E_int E_int)) (by first | with_reducible rfl | (simp only [bind_okS]; done) | (simp only [bind_okS, bind_ret]; done) | (simp only [bind_okS, bind_ret, bind_bind]; done) | exact congrArg _ (funext fun _ => congrArg _ (funext fun _ => congrArg ok (decide_eq_decide.mpr Iff.rfl))))) (J_cons (S_set 3 (E_eq (E_sub (E_var 0) (E_powK (c := 1000000000000000000) 18 (by decide) (by decide) (by decide +kernel) E_int E_int)) (by first | with_reducible rfl | (simp only [bind_okS]; done) | (simp only [bind_okS, bind_ret]; done) | (simp only [bind_okS, bind_ret, bind_bind]; done) | exact congrArg _ (funext fun _ => congrArg _ (funext fun _ => congrArg ok (decide_eq_decide.mpr Iff.rfl)))))) fun left6 => (J_nil [0, 1, 2, 3] (left6))) (J_nil [0, 1, 2, 3] (left4))) fun left7 => (J_cons (S_setO 4 (E_eq (E_eq (E_lst I_nil) (psz_w (xs := ([] : List Int)) rfl)) (by first | with_reducible rfl | (simp only [bind_okS]; done) | (simp only [bind_okS, bind_ret]; done) | (simp only [bind_okS, bind_ret, bind_bind]; done) | exact congrArg _ (funext fun _ => congrArg _ (funext fun _ => congrArg ok (decide_eq_decide.mpr Iff.rfl)))))) fun found8 => (J_cons (S_for (Γl := fun s9 : Int × (List Int) => [eD 0 tInt t.1, eD 1 (tLst tInt) t.2.1, eD 2 tInt t.2.2.1, eD 3 tInt s9.1, eO 4 tInt s9.2]) [0, 1, 2, 3, 4] (left7, found8) (I_eq (I_rangeI T.n_range (E_lenL T.n_len (E_bor (E_var 1)))) (by first | with_reducible rfl | (simp only [bind_okS]; done) | (simp only [bind_okS, bind_ret]; done) | (simp only [bind_okS, bind_ret, bind_bind]; done) | exact congrArg _ (funext fun _ => congrArg _ (funext fun _ => congrArg ok (decide_eq_decide.mpr Iff.rfl))))) (G_name 5) (fun s9 k10 => (J_last (S_if (B_eq (B_cmp op_gt (cp_gt _) (nomark _) (E_var 3) E_int) (by first | with_reducible rfl | (simp only [bind_okS]; done) | (simp only [bind_okS, bind_ret]; done) | (simp only [bind_okS, bind_ret, bind_bind]; done) | exact congrArg _ (funext fun _ => congrArg _ (funext fun _ => congrArg ok (decide_eq_decide.mpr Iff.rfl))))) (J_cons (S_eq (S_append 4 (E_mod (E_var 3) (E_ixL (E_bor (E_var 1)) (E_var 5)))) (by first | with_reducible rfl | (simp only [bind_okS]; done) | (simp only [bind_okS, bind_ret]; done) | (simp only [bind_okS, bind_ret, bind_bind]; done) | exact congrArg _ (funext fun _ => congrArg _ (funext fun _ => congrArg ok (decide_eq_decide.mpr Iff.rfl))))) fun found14 => (J_cons (S_set 3 (E_eq (E_div (E_var 3) (E_ixL (E_bor (E_var 1)) (E_var 5))) (by first | with_reducible rfl | (simp only [bind_okS]; done) | (simp only [bind_okS, bind_ret]; done) | (simp only [bind_okS, bind_ret, bind_bind]; done) | exact congrArg _ (funext fun _ => congrArg _ (funext fun _ => congrArg ok (decide_eq_decide.mpr Iff.rfl)))))) fun left15 => (J_nil [0, 1, 2, 3, 4] (left15, found14)))) (J_cons (S_eq (S_append 4 (E_mod (E_call (fx__law_mixed T) (Nat.le_of_ble_eq_true rfl) (A_cons (E_var 0) fun _ => (A_cons (E_var 5) fun _ => (A_cons (E_var 2) fun _ => A_nil))) [] rfl) (E_ixL (E_bor (E_var 1)) (E_var 5)))) (by first | with_reducible rfl | (simp only [bind_okS]; done) | (simp only [bind_okS, bind_ret]; done) | (simp only [bind_okS, bind_ret, bind_bind]; done) | exact congrArg _ (funext fun _ => congrArg _ (funext fun _ => congrArg ok (decide_eq_decide.mpr Iff.rfl))))) fun found20 => (J_nil [0, 1, 2, 3, 4] (s9.1, found20))))))) fun s21 => (J_last (S_retO 4 (fun a => a)))))))
theorem sc__law_primes : FnScope N__law_primes [] (defScope s__law_primes) := ⟨rfl, rfl, rfl, by decide +kernel, rfl, by decide +kernel, by decide +kernel⟩
theorem fx__law_primes (T : Facts K mg) : Fx P w K mg base "_law_primes" 1 .nil (own tInt) (fun t => m__law_primes ) :=
  fx_ret N__law_primes [] T.d__law_primes sc__law_primes rfl (fun _ _ _ _ _ _ us hl => match us, hl with | [], _ => rfl) fun cdv f A outer s H E t => (by show JB _ _ _ _ _ _ (m__law_primes ); unfold m__law_primes; exact (J_last (S_retT (E_eq (E_comp (C_comp (own := [("_law_n", 0)]) (hok := (by first | (show blkC N__law_primes (defScope s__law_primes) _ _ = true; decide +kernel) | kernel_rfl)) (I_eq (I_range2 T.n_range E_int E_int) (by first | with_reducible rfl | (simp only [bind_okS]; done) | (simp only [bind_okS, bind_ret]; done) | (simp only [bind_okS, bind_ret, bind_bind]; done) | exact congrArg _ (funext fun _ => congrArg _ (funext fun _ => congrArg ok (decide_eq_decide.mpr Iff.rfl))))) (fun _ _ _ _ _ => (G_name 0)) (fun _ _ _ _ _ n1 => (Bs_one (B_eq (B_val (E_all T.n_all (E_borF (E_comp (C_map (own := [("_law_d", 1)]) (hok := (by first | (show blkC N__law_primes (defScope s__law_primes) _ _ = true; decide +kernel) | kernel_rfl)) (I_eq (I_range2 T.n_range E_int E_int) (by first | with_reducible rfl | (simp only [bind_okS]; done) | (simp only [bind_okS, bind_ret]; done) | (simp only [bind_okS, bind_ret, bind_bind]; done) | exact congrArg _ (funext fun _ => congrArg _ (funext fun _ => congrArg ok (decide_eq_decide.mpr Iff.rfl))))) (fun _ _ _ _ _ => (G_name 1)) (fun _ _ _ _ _ d2 => (E_eq (E_or (E_cmp op_eq (cp_eq _) (nomark _) (E_var 0) (E_var 1)) (E_one (E_cmp op_ne (cp_ne _) (nomark _) (E_mod (E_var 0) (E_var 1)) E_int))) (by first | with_reducible rfl | (simp only [bind_okS]; done) | (simp only [bind_okS, bind_ret]; done) | (simp only [bind_okS, bind_ret, bind_bind]; done) | exact congrArg _ (funext fun _ => congrArg _ (funext fun _ => congrArg ok (decide_eq_decide.mpr Iff.rfl))))))))))) (by first | with_reducible rfl | (simp only [bind_okS]; done) | (simp only [bind_okS, bind_ret]; done) | (simp only [bind_okS, bind_ret, bind_bind]; done) | exact congrArg _ (funext fun _ => congrArg _ (funext fun _ => congrArg ok (decide_eq_decide.mpr Iff.rfl))))))) (fun _ _ _ _ _ n1 => (E_eq (E_var 0) (by first | with_reducible rfl | (simp only [bind_okS]; done) | (simp only [bind_okS, bind_ret]; done) | (simp only [bind_okS, bind_ret, bind_bind]; done) | exact congrArg _ (funext fun _ => congrArg _ (funext fun _ => congrArg ok (decide_eq_decide.mpr Iff.rfl)))))))) (by first | with_reducible rfl | (simp only [bind_okS]; done) | (simp only [bind_okS, bind_ret]; done) | (simp only [bind_okS, bind_ret, bind_bind]; done) | exact congrArg _ (funext fun _ => congrArg _ (funext fun _ => congrArg ok (decide_eq_decide.mpr Iff.rfl))))))))
theorem sc__law_prime : FnScope N__law_prime ["_law_cell_here", "_law_prime_here"] (defScope s__law_prime) := ⟨rfl, rfl, rfl, by decide +kernel, rfl, by decide +kernel, by decide +kernel⟩
theorem fx__law_prime (T : Facts K mg) : Fx P w K mg base "_law_prime" 3 (.cons tInt (.cons tInt .nil)) (dat tInt) (fun t => m__law_prime t.1 t.2.1) :=
  fx_ret N__law_prime ["_law_cell_here", "_law_prime_here"] T.d__law_prime sc__law_prime rfl (fun _ _ _ _ _ _ us hl => match us, hl with | [_, _], _ => rfl) fun cdv f A outer s H E t => (J_cons (S_set 2 (E_eq (E_frz (E_call (fx__law_draws T) (Nat.le_of_ble_eq_true rfl) (A_cons (E_var 0) fun _ => (A_cons (E_frz (E_eq (E_lst (I_cons E_int fun _ => (I_cons E_int fun _ => I_nil))) (psz_w (xs := [2, 46]) rfl))) fun _ => (A_cons (E_var 1) fun _ => A_nil))) [] rfl)) (by first | with_reducible rfl | (simp only [bind_okS]; done) | (simp only [bind_okS, bind_ret]; done) | (simp only [bind_okS, bind_ret, bind_bind]; done) | exact congrArg _ (funext fun _ => congrArg _ (funext fun _ => congrArg ok (decide_eq_decide.mpr Iff.rfl)))))) fun found3 => (J_ifrT (B_eq (B_cmp op_eq (cp_eq _) (nomark _) (E_ixL (E_bor (E_var 2)) E_int) E_int) (by first | with_reducible rfl | (simp only [bind_okS]; done) | (simp only [bind_okS, bind_ret]; done) | (simp only [bind_okS, bind_ret, bind_bind]; done) | exact congrArg _ (funext fun _ => congrArg _ (funext fun _ => congrArg ok (decide_eq_decide.mpr Iff.rfl))))) (J_last (S_retT (E_eq (E_ixL (E_borF (E_call0 (fx__law_primes T) (Nat.le_of_ble_eq_true rfl) [] rfl)) (E_modR (by decide) (E_ixL (E_bor (E_var 2)) E_int) E_int)) (by first | with_reducible rfl | (simp only [bind_okS]; done) | (simp only [bind_okS, bind_ret]; done) | (simp only [bind_okS, bind_ret, bind_bind]; done) | exact congrArg _ (funext fun _ => congrArg _ (funext fun _ => congrArg ok (decide_eq_decide.mpr Iff.rfl))))))) (J_last (S_retT (E_eq (E_ixL (E_borF (E_call0 (fx__law_primes T) (Nat.le_of_ble_eq_true rfl) [] rfl)) (E_ixL (E_bor (E_var 2)) E_int)) (by first | with_reducible rfl | (simp only [bind_okS]; done) | (simp only [bind_okS, bind_ret]; done) | (simp only [bind_okS, bind_ret, bind_bind]; done) | exact congrArg _ (funext fun _ => congrArg _ (funext fun _ => congrArg ok (decide_eq_decide.mpr Iff.rfl)))))))))
theorem sc__law_cell : FnScope N__law_cell ["_law_script", "_law_k"] (defScope s__law_cell) := ⟨rfl, rfl, rfl, by decide +kernel, rfl, by decide +kernel, by decide +kernel⟩
theorem fx__law_cell (T : Facts K mg) : Fx P w K mg base "_law_cell" 1 (.cons tScr (.cons tInt .nil)) (dat tInt) (fun t => m__law_cell t.1 t.2.1) :=
  fx_ret N__law_cell ["_law_script", "_law_k"] T.d__law_cell sc__law_cell rfl (fun _ _ _ _ _ _ us hl => match us, hl with | [_, _], _ => rfl) fun cdv f A outer s H E t => (J_ifrT (B_eq (B_cmp op_eq (cp_eq _) (nomark _) (E_lenL T.n_len (E_borS (E_var 0))) E_int) (by first | with_reducible rfl | (simp only [bind_okS]; done) | (simp only [bind_okS, bind_ret]; done) | (simp only [bind_okS, bind_ret, bind_bind]; done) | exact congrArg _ (funext fun _ => congrArg _ (funext fun _ => congrArg ok (decide_eq_decide.mpr Iff.rfl))))) (J_last (S_retT (E_eq (E_mulL (by decide) E_int (E_add (E_var 1) E_int)) (by first | with_reducible rfl | (simp only [bind_okS]; done) | (simp only [bind_okS, bind_ret]; done) | (simp only [bind_okS, bind_ret, bind_bind]; done) | exact congrArg _ (funext fun _ => congrArg _ (funext fun _ => congrArg ok (decide_eq_decide.mpr Iff.rfl))))))) (J_ifrT (B_eq (B_cmp op_lt (cp_lt _) (nomark _) (E_var 1) (E_lenL T.n_len (E_borS (E_var 0)))) (by first | with_reducible rfl | (simp only [bind_okS]; done) | (simp only [bind_okS, bind_ret]; done) | (simp only [bind_okS, bind_ret, bind_bind]; done) | exact congrArg _ (funext fun _ => congrArg _ (funext fun _ => congrArg ok (decide_eq_decide.mpr Iff.rfl))))) (J_last (S_retT (E_eq (E_ixL (E_borS (E_var 0)) (E_var 1)) (by first | with_reducible rfl | (simp only [bind_okS]; done) | (simp only [bind_okS, bind_ret]; done) | (simp only [bind_okS, bind_ret, bind_bind]; done) | exact congrArg _ (funext fun _ => congrArg _ (funext fun _ => congrArg ok (decide_eq_decide.mpr Iff.rfl))))))) (J_last (S_retT (E_eq (E_add (E_ixL (E_borS (E_var 0)) (E_mod (E_var 1) (E_lenL T.n_len (E_borS (E_var 0))))) (E_mulL (by decide) E_int (E_var 1))) (by first | with_reducible rfl | (simp only [bind_okS]; done) | (simp only [bind_okS, bind_ret]; done) | (simp only [bind_okS, bind_ret, bind_bind]; done) | exact congrArg _ (funext fun _ => congrArg _ (funext fun _ => congrArg ok (decide_eq_decide.mpr Iff.rfl)))))))))
theorem sc__law_mod_places : FnScope N__law_mod_places ["_law_cell_here", "_law_many", "_law_p", "_law_prime_here"] (defScope s__law_mod_places) := ⟨rfl, rfl, rfl, by decide +kernel, rfl, by decide +kernel, by decide +kernel⟩
theorem fx__law_mod_places (T : Facts K mg) : Fx P w K mg base "_law_mod_places" 3 (.cons tInt (.cons tInt (.cons tInt (.cons tInt .nil)))) (own tInt) (fun t => m__law_mod_places t.1 t.2.1 t.2.2.1 t.2.2.2.1) :=
  fx_ret N__law_mod_places ["_law_cell_here", "_law_many", "_law_p", "_law_prime_here"] T.d__law_mod_places sc__law_mod_places rfl (fun _ _ _ _ _ _ us hl => match us, hl with | [_, _, _, _], _ => rfl) fun cdv f A outer s H E t => (by show JB _ _ _ _ _ _ (m__law_mod_places t.1 t.2.1 t.2.2.1 t.2.2.2.1); unfold m__law_mod_places; exact (J_last (S_retT (E_eq (E_call (fx__law_draws T) (Nat.le_of_ble_eq_true rfl) (A_cons (E_var 0) fun _ => (A_cons (E_frz (E_rep (E_borTF (E_eq (E_lst (I_cons (E_var 2) fun _ => I_nil)) (psz_w (xs := [t.2.2.1]) rfl))) (E_var 1))) fun _ => (A_cons (E_var 3) fun _ => A_nil))) [] rfl) (by first | with_reducible rfl | (simp only [bind_okS]; done) | (simp only [bind_okS, bind_ret]; done) | (simp only [bind_okS, bind_ret, bind_bind]; done) | exact congrArg _ (funext fun _ => congrArg _ (funext fun _ => congrArg ok (decide_eq_decide.mpr Iff.rfl))))))))
theorem sc__law_cut : FnScope N__law_cut ["_law_row"] (defScope s__law_cut) := ⟨rfl, rfl, rfl, by decide +kernel, rfl, by decide +kernel, by decide +kernel⟩
theorem fx__law_cut (T : Facts K mg) : Fx P w K mg base "_law_cut" 1 (.cons (tLst tInt) .nil) (dat (tRow tInt)) (fun t => m__law_cut t.1) :=
  fx_ret N__law_cut ["_law_row"] T.d__law_cut sc__law_cut rfl (fun _ _ _ _ _ _ us hl => match us, hl with | [_], _ => rfl) fun cdv f A outer s H E t => (J_cons (S_set 1 (E_eq (E_lenL T.n_len (E_bor (E_var 0))) (by first | with_reducible rfl | (simp only [bind_okS]; done) | (simp only [bind_okS, bind_ret]; done) | (simp only [bind_okS, bind_ret, bind_bind]; done) | exact congrArg _ (funext fun _ => congrArg _ (funext fun _ => congrArg ok (decide_eq_decide.mpr Iff.rfl)))))) fun many2 => (J_cons (S_while (Γl := fun many3 : Int => [eD 0 (tLst tInt) t.1, eD 1 tInt many3]) [0, 1] (many2) (fun many3 => (B_eq (B_w (W_and (B_cmp op_gt (cp_gt _) (nomark _) (E_var 1) E_int) (W_and1 (B_cmp op_eq (cp_eq _) (nomark _) (E_ixL (E_bor (E_var 0)) (E_sub (E_var 1) E_int)) E_int)))) (by first | with_reducible rfl | (simp only [bind_okS]; done) | (simp only [bind_okS, bind_ret]; done) | (simp only [bind_okS, bind_ret, bind_bind]; done) | exact congrArg _ (funext fun _ => congrArg _ (funext fun _ => congrArg ok (decide_eq_decide.mpr Iff.rfl)))))) (fun many3 => (J_cons (S_set 1 (E_eq (E_sub (E_var 1) E_int) (by first | with_reducible rfl | (simp only [bind_okS]; done) | (simp only [bind_okS, bind_ret]; done) | (simp only [bind_okS, bind_ret, bind_bind]; done) | exact congrArg _ (funext fun _ => congrArg _ (funext fun _ => congrArg ok (decide_eq_decide.mpr Iff.rfl)))))) fun many6 => (J_nil [0, 1] (many6))))) fun many7 => (J_last (S_retT (E_eq (E_tupleL T.n_tuple (E_borF (E_slL (E_bor (E_var 0)) O_none (O_some (E_var 1))))) (by first | with_reducible rfl | (simp only [bind_okS]; done) | (simp only [bind_okS, bind_ret]; done) | (simp only [bind_okS, bind_ret, bind_bind]; done) | exact congrArg _ (funext fun _ => congrArg _ (funext fun _ => congrArg ok (decide_eq_decide.mpr Iff.rfl)))))))))
theorem sc__law_mod_times : FnScope N__law_mod_times ["_law_f", "_law_g", "_law_p"] (defScope s__law_mod_times) := ⟨rfl, rfl, rfl, by decide +kernel, rfl, by decide +kernel, by decide +kernel⟩
theorem fx__law_mod_times (T : Facts K mg) : Fx P w K mg base "_law_mod_times" 2 (.cons (tRow tInt) (.cons (tRow tInt) (.cons tInt .nil))) (dat (tRow tInt)) (fun t => m__law_mod_times t.1 t.2.1 t.2.2.1) :=
  fx_ret N__law_mod_times ["_law_f", "_law_g", "_law_p"] T.d__law_mod_times sc__law_mod_times rfl (fun _ _ _ _ _ _ us hl => match us, hl with | [_, _, _], _ => rfl) fun cdv f A outer s H E t => (J_cons (S_setO 3 (E_eq (E_rep (E_borTF (E_eq (E_lst (I_cons E_int fun _ => I_nil)) (psz_w (xs := [0]) rfl))) (E_add (E_lenT T.n_len (E_var 0)) (E_lenT T.n_len (E_var 1)))) (by first | with_reducible rfl | (simp only [bind_okS]; done) | (simp only [bind_okS, bind_ret]; done) | (simp only [bind_okS, bind_ret, bind_bind]; done) | exact congrArg _ (funext fun _ => congrArg _ (funext fun _ => congrArg ok (decide_eq_decide.mpr Iff.rfl)))))) fun raw4 => (J_cons (S_for (Γl := fun raw5 : (List Int) => [eD 0 (tRow tInt) t.1, eD 1 (tRow tInt) t.2.1, eD 2 tInt t.2.2.1, eO 3 tInt raw5]) [0, 1, 2, 3] (raw4) (I_eq (I_rangeI T.n_range (E_lenT T.n_len (E_var 0))) (by first | with_reducible rfl | (simp only [bind_okS]; done) | (simp only [bind_okS, bind_ret]; done) | (simp only [bind_okS, bind_ret, bind_bind]; done) | exact congrArg _ (funext fun _ => congrArg _ (funext fun _ => congrArg ok (decide_eq_decide.mpr Iff.rfl))))) (G_name 4) (fun raw5 i6 => (J_cons (S_for (Γl := fun raw7 : (List Int) => [eD 0 (tRow tInt) t.1, eD 1 (tRow tInt) t.2.1, eD 2 tInt t.2.2.1, eO 3 tInt raw7, eD 4 tInt i6]) [0, 1, 2, 3, 4] (raw5) (I_eq (I_rangeI T.n_range (E_lenT T.n_len (E_var 1))) (by first | with_reducible rfl | (simp only [bind_okS]; done) | (simp only [bind_okS, bind_ret]; done) | (simp only [bind_okS, bind_ret, bind_bind]; done) | exact congrArg _ (funext fun _ => congrArg _ (funext fun _ => congrArg ok (decide_eq_decide.mpr Iff.rfl))))) (G_name 5) (fun raw7 j8 => (J_cons (S_eq (S_store 3 (E_mod (E_add (E_ixL (E_own 3) (E_add (E_var 4) (E_var 5))) (E_mul (E_ixT (E_var 0) (E_var 4)) (E_ixT (E_var 1) (E_var 5)))) (E_var 2)) (E_add (E_var 4) (E_var 5))) (by first | with_reducible rfl | (simp only [bind_okS]; done) | (simp only [bind_okS, bind_ret]; done) | (simp only [bind_okS, bind_ret, bind_bind]; done) | exact congrArg _ (funext fun _ => congrArg _ (funext fun _ => congrArg ok (decide_eq_decide.mpr Iff.rfl))))) fun raw14 => (J_nil [0, 1, 2, 3, 4] (raw14))))) fun raw16 => (J_nil [0, 1, 2, 3] (raw16))))) fun raw17 => (J_frzE 3 rfl (J_last (S_retT (E_eq (E_call (fx__law_cut T) (Nat.le_of_ble_eq_true rfl) (A_cons (E_var 3) fun _ => A_nil) [] rfl) (by first | with_reducible rfl | (simp only [bind_okS]; done) | (simp only [bind_okS, bind_ret]; done) | (simp only [bind_okS, bind_ret, bind_bind]; done) | exact congrArg _ (funext fun _ => congrArg _ (funext fun _ => congrArg ok (decide_eq_decide.mpr Iff.rfl))))))))))
theorem sc__law_written : FnScope N__law_written ["_law_places", "_law_p", "_law_cell_here", "_law_prime_here"] (defScope s__law_written) := ⟨rfl, rfl, rfl, by decide +kernel, rfl, by decide +kernel, by decide +kernel⟩
theorem fx__law_written (T : Facts K mg) : Fx P w K mg base "_law_written" 3 (.cons (tRow tInt) (.cons tInt (.cons tInt (.cons tInt .nil)))) (own tInt) (fun t => m__law_written t.1 t.2.1 t.2.2.1 t.2.2.2.1) :=
  fx_ret N__law_written ["_law_places", "_law_p", "_law_cell_here", "_law_prime_here"] T.d__law_written sc__law_written rfl (fun _ _ _ _ _ _ us hl => match us, hl with | [_, _, _, _], _ => rfl) fun cdv f A outer s H E t => (J_cons (S_set 4 (E_eq (E_frz (E_call (fx__law_draws T) (Nat.le_of_ble_eq_true rfl) (A_cons (E_var 2) fun _ => (A_cons (E_frz (E_cat (E_borTF (E_eq (E_lst (I_cons E_int fun _ => I_nil)) (psz_w (xs := [4]) rfl))) (E_borTF (E_rep (E_borTF (E_eq (E_lst (I_cons (E_powK (c := 100000000) 8 (by decide) (by decide) (by decide +kernel) E_int E_int) fun _ => I_nil)) (psz_w (xs := [100000000]) rfl))) (E_lenT T.n_len (E_var 0)))))) fun _ => (A_cons (E_var 3) fun _ => A_nil))) [] rfl)) (by first | with_reducible rfl | (simp only [bind_okS]; done) | (simp only [bind_okS, bind_ret]; done) | (simp only [bind_okS, bind_ret, bind_bind]; done) | exact congrArg _ (funext fun _ => congrArg _ (funext fun _ => congrArg ok (decide_eq_decide.mpr Iff.rfl)))))) fun found5 => (J_cons (S_set 5 (E_eq (E_ixL (E_borF (E_eq (E_lst (I_cons E_int fun _ => (I_cons E_int fun _ => (I_cons (E_powK (c := 100000000000000000000) 20 (by decide) (by decide) (by decide +kernel) E_int E_int) fun _ => (I_cons (E_mulK (c := 10000000000000000000000000000000000000000000000000000000000000000000000000000000000000000) (by decide +kernel) (by decide +kernel) (E_powK (c := 100000000000000000000000000000000000000000000) 44 (by decide) (by decide) (by decide +kernel) E_int E_int) (E_powK (c := 100000000000000000000000000000000000000000000) 44 (by decide) (by decide) (by decide +kernel) E_int E_int)) fun _ => I_nil))))) (psz_w (xs := [0, 1, 100000000000000000000, 10000000000000000000000000000000000000000000000000000000000000000000000000000000000000000]) rfl))) (E_ixL (E_bor (E_var 4)) E_int)) (by first | with_reducible rfl | (simp only [bind_okS]; done) | (simp only [bind_okS, bind_ret]; done) | (simp only [bind_okS, bind_ret, bind_bind]; done) | exact congrArg _ (funext fun _ => congrArg _ (funext fun _ => congrArg ok (decide_eq_decide.mpr Iff.rfl)))))) fun far_here8 => (J_last (S_retT (E_eq (E_comp (C_map (own := [("_law_place", 6), ("_law_more", 7)]) (hok := (by first | (show blkC N__law_written (defScope s__law_written) _ _ = true; decide +kernel) | kernel_rfl)) (I_eq (I_zipTL T.n_zip (E_var 0) (E_frz (E_slL (E_bor (E_var 4)) (O_some E_int) O_none))) (by first | with_reducible rfl | (simp only [bind_okS]; done) | (simp only [bind_okS, bind_ret]; done) | (simp only [bind_okS, bind_ret, bind_bind]; done) | exact congrArg _ (funext fun _ => congrArg _ (funext fun _ => congrArg ok (decide_eq_decide.mpr Iff.rfl))))) (fun _ _ _ _ _ => (G_rec2K K (G_name 6) (G_name 7))) (fun _ _ _ _ _ x10 => (E_eq (E_add (E_var 6) (E_mul (E_mul (E_var 1) (E_var 5)) (E_sub (E_var 7) (E_mulK (c := 50000000) (by decide +kernel) (by decide +kernel) E_int (E_powK (c := 10000000) 7 (by decide) (by decide) (by decide +kernel) E_int E_int))))) (by first | with_reducible rfl | (simp only [bind_okS]; done) | (simp only [bind_okS, bind_ret]; done) | (simp only [bind_okS, bind_ret, bind_bind]; done) | exact congrArg _ (funext fun _ => congrArg _ (funext fun _ => congrArg ok (decide_eq_decide.mpr Iff.rfl)))))))) (by first | with_reducible rfl | (simp only [bind_okS]; done) | (simp only [bind_okS, bind_ret]; done) | (simp only [bind_okS, bind_ret, bind_bind]; done) | exact congrArg _ (funext fun _ => congrArg _ (funext fun _ => congrArg ok (decide_eq_decide.mpr Iff.rfl)))))))))
theorem sc__law_far : FnScope N__law_far ["_law_cell_here", "_law_parts", "_law_most", "_law_prime_here"] (defScope s__law_far) := ⟨rfl, rfl, rfl, by decide +kernel, rfl, by decide +kernel, by decide +kernel⟩
theorem fx__law_far (T : Facts K mg) : Fx P w K mg base "_law_far" 3 (.cons tInt (.cons tInt (.cons tInt (.cons tInt .nil)))) (dat tInt) (fun t => m__law_far t.1 t.2.1 t.2.2.1 t.2.2.2.1) :=
  fx_ret N__law_far ["_law_cell_here", "_law_parts", "_law_most", "_law_prime_here"] T.d__law_far sc__law_far rfl (fun _ _ _ _ _ _ us hl => match us, hl with | [_, _, _, _], _ => rfl) fun cdv f A outer s H E t => (J_cons (S_set 4 (E_eq (E_frz (E_call (fx__law_draws T) (Nat.le_of_ble_eq_true rfl) (A_cons (E_var 0) fun _ => (A_cons (E_frz (E_cat (E_borTF (E_eq (E_lst (I_cons E_int fun _ => I_nil)) (psz_w (xs := [6]) rfl))) (E_borTF (E_rep (E_borTF (E_eq (E_lst (I_cons (E_powK (c := 100000000) 8 (by decide) (by decide) (by decide +kernel) E_int E_int) fun _ => I_nil)) (psz_w (xs := [100000000]) rfl))) (E_var 1))))) fun _ => (A_cons (E_var 3) fun _ => A_nil))) [] rfl)) (by first | with_reducible rfl | (simp only [bind_okS]; done) | (simp only [bind_okS, bind_ret]; done) | (simp only [bind_okS, bind_ret, bind_bind]; done) | exact congrArg _ (funext fun _ => congrArg _ (funext fun _ => congrArg ok (decide_eq_decide.mpr Iff.rfl)))))) fun found5 => (J_cons (S_set 5 (E_eq E_int (by first | with_reducible rfl | (simp only [bind_okS]; done) | (simp only [bind_okS, bind_ret]; done) | (simp only [bind_okS, bind_ret, bind_bind]; done) | exact congrArg _ (funext fun _ => congrArg _ (funext fun _ => congrArg ok (decide_eq_decide.mpr Iff.rfl)))))) fun far_here8 => (J_cons (S_for (Γl := fun far_here9 : Int => [eD 2 tInt t.2.2.1, eD 4 (tLst tInt) found5, eD 5 tInt far_here9]) [2, 4, 5] (far_here8) (I_eq (I_list (E_frz (E_slL (E_bor (E_var 4)) (O_some E_int) O_none))) (by first | with_reducible rfl | (simp only [bind_okS]; done) | (simp only [bind_okS, bind_ret]; done) | (simp only [bind_okS, bind_ret, bind_bind]; done) | exact congrArg _ (funext fun _ => congrArg _ (funext fun _ => congrArg ok (decide_eq_decide.mpr Iff.rfl))))) (G_name 6) (fun far_here9 part10 => (J_cons (S_set 5 (E_eq (E_add (E_mulR (by decide) (E_var 5) (E_powK (c := 100000000) 8 (by decide) (by decide) (by decide +kernel) E_int E_int)) (E_var 6)) (by first | with_reducible rfl | (simp only [bind_okS]; done) | (simp only [bind_okS, bind_ret]; done) | (simp only [bind_okS, bind_ret, bind_bind]; done) | exact congrArg _ (funext fun _ => congrArg _ (funext fun _ => congrArg ok (decide_eq_decide.mpr Iff.rfl)))))) fun far_here11 => (J_nil [2, 4, 5] (far_here11))))) fun far_here12 => (J_ifrT (B_eq (B_cmp op_eq (cp_eq _) (nomark _) (E_ixL (E_bor (E_var 4)) E_int) E_int) (by first | with_reducible rfl | (simp only [bind_okS]; done) | (simp only [bind_okS, bind_ret]; done) | (simp only [bind_okS, bind_ret, bind_bind]; done) | exact congrArg _ (funext fun _ => congrArg _ (funext fun _ => congrArg ok (decide_eq_decide.mpr Iff.rfl))))) (J_last (S_retT (E_eq E_int (by first | with_reducible rfl | (simp only [bind_okS]; done) | (simp only [bind_okS, bind_ret]; done) | (simp only [bind_okS, bind_ret, bind_bind]; done) | exact congrArg _ (funext fun _ => congrArg _ (funext fun _ => congrArg ok (decide_eq_decide.mpr Iff.rfl))))))) (J_ifrT (B_eq (B_cmp op_eq (cp_eq _) (nomark _) (E_ixL (E_bor (E_var 4)) E_int) E_int) (by first | with_reducible rfl | (simp only [bind_okS]; done) | (simp only [bind_okS, bind_ret]; done) | (simp only [bind_okS, bind_ret, bind_bind]; done) | exact congrArg _ (funext fun _ => congrArg _ (funext fun _ => congrArg ok (decide_eq_decide.mpr Iff.rfl))))) (J_last (S_retT (E_eq (E_sub (E_modR (by decide) (E_var 5) E_int) E_int) (by first | with_reducible rfl | (simp only [bind_okS]; done) | (simp only [bind_okS, bind_ret]; done) | (simp only [bind_okS, bind_ret, bind_bind]; done) | exact congrArg _ (funext fun _ => congrArg _ (funext fun _ => congrArg ok (decide_eq_decide.mpr Iff.rfl))))))) (J_last (S_retT (E_eq (E_sub (E_mod (E_var 5) (E_add (E_mulL (by decide) E_int (E_var 2)) E_int)) (E_var 2)) (by first | with_reducible rfl | (simp only [bind_okS]; done) | (simp only [bind_okS, bind_ret]; done) | (simp only [bind_okS, bind_ret, bind_bind]; done) | exact congrArg _ (funext fun _ => congrArg _ (funext fun _ => congrArg ok (decide_eq_decide.mpr Iff.rfl))))))))))))
theorem sc__law_whole : FnScope N__law_whole ["_law_found"] (defScope s__law_whole) := ⟨rfl, rfl, rfl, by decide +kernel, rfl, by decide +kernel, by decide +kernel⟩
theorem fx__law_whole (T : Facts K mg) : Fx P w K mg base "_law_whole" 1 (.cons tInt .nil) (dat tBool) (fun t => m__law_whole t.1) :=
  fx_ret N__law_whole ["_law_found"] T.d__law_whole sc__law_whole rfl (fun _ _ _ _ _ _ us hl => match us, hl with | [_], _ => rfl) fun cdv f A outer s H E t => (by show JB _ _ _ _ _ _ (m__law_whole t.1); unfold m__law_whole; exact (J_last (S_retT (E_eq (E_and (E_isi (C := "int") (r := true) ty_int (by decide +kernel) T.n_isinstance T.n_int (by decide +kernel) (E_var 0)) (E_one (E_not (E_isi (C := "bool") (r := false) ty_int (by decide +kernel) T.n_isinstance T.n_bool (by decide +kernel) (E_var 0))))) (by first | with_reducible rfl | (simp only [bind_okS]; done) | (simp only [bind_okS, bind_ret]; done) | (simp only [bind_okS, bind_ret, bind_bind]; done) | exact congrArg _ (funext fun _ => congrArg _ (funext fun _ => congrArg ok (decide_eq_decide.mpr Iff.rfl))))))))
theorem sc__law_is_poly : FnScope N__law_is_poly ["_law_found"] (defScope s__law_is_poly) := ⟨rfl, rfl, rfl, by decide +kernel, rfl, by decide +kernel, by decide +kernel⟩
theorem fx__law_is_poly (T : Facts K mg) : Fx P w K mg base "_law_is_poly" 2 (.cons (tRow tInt) .nil) (dat tBool) (fun t => m__law_is_poly t.1) :=
  fx_ret N__law_is_poly ["_law_found"] T.d__law_is_poly sc__law_is_poly rfl (fun _ _ _ _ _ _ us hl => match us, hl with | [_], _ => rfl) fun cdv f A outer s H E t => (J_ifrT (B_eq (B_not (B_val (E_isi (C := "tuple") (r := true) (ty_row _) (by decide +kernel) T.n_isinstance T.n_tuple (by decide +kernel) (E_var 0)))) (by first | with_reducible rfl | (simp only [bind_okS]; done) | (simp only [bind_okS, bind_ret]; done) | (simp only [bind_okS, bind_ret, bind_bind]; done) | exact congrArg _ (funext fun _ => congrArg _ (funext fun _ => congrArg ok (decide_eq_decide.mpr Iff.rfl))))) (J_last (S_retT (E_eq E_bool (by first | with_reducible rfl | (simp only [bind_okS]; done) | (simp only [bind_okS, bind_ret]; done) | (simp only [bind_okS, bind_ret, bind_bind]; done) | exact congrArg _ (funext fun _ => congrArg _ (funext fun _ => congrArg ok (decide_eq_decide.mpr Iff.rfl))))))) (J_ifrT (B_eq (B_not (B_val (E_all T.n_all (E_borF (E_comp (C_map (own := [("_law_place", 1)]) (hok := (by first | (show blkC N__law_is_poly (defScope s__law_is_poly) _ _ = true; decide +kernel) | kernel_rfl)) (I_eq (I_tup (E_var 0)) (by first | with_reducible rfl | (simp only [bind_okS]; done) | (simp only [bind_okS, bind_ret]; done) | (simp only [bind_okS, bind_ret, bind_bind]; done) | exact congrArg _ (funext fun _ => congrArg _ (funext fun _ => congrArg ok (decide_eq_decide.mpr Iff.rfl))))) (fun _ _ _ _ _ => (G_name 1)) (fun _ _ _ _ _ place3 => (E_eq (E_call (fx__law_whole T) (Nat.le_of_ble_eq_true rfl) (A_cons (E_var 1) fun _ => A_nil) [] rfl) (by first | with_reducible rfl | (simp only [bind_okS]; done) | (simp only [bind_okS, bind_ret]; done) | (simp only [bind_okS, bind_ret, bind_bind]; done) | exact congrArg _ (funext fun _ => congrArg _ (funext fun _ => congrArg ok (decide_eq_decide.mpr Iff.rfl)))))))))))) (by first | with_reducible rfl | (simp only [bind_okS]; done) | (simp only [bind_okS, bind_ret]; done) | (simp only [bind_okS, bind_ret, bind_bind]; done) | exact congrArg _ (funext fun _ => congrArg _ (funext fun _ => congrArg ok (decide_eq_decide.mpr Iff.rfl))))) (J_last (S_retT (E_eq E_bool (by first | with_reducible rfl | (simp only [bind_okS]; done) | (simp only [bind_okS, bind_ret]; done) | (simp only [bind_okS, bind_ret, bind_bind]; done) | exact congrArg _ (funext fun _ => congrArg _ (funext fun _ => congrArg ok (decide_eq_decide.mpr Iff.rfl))))))) (J_last (S_retT (E_eq (E_or (E_cmp op_eq (cp_eq _) (nomark _) (E_lenT T.n_len (E_var 0)) E_int) (E_one (E_cmp op_ne (cp_ne _) (nomark _) (E_ixT (E_var 0) (E_neg E_int)) E_int))) (by first | with_reducible rfl | (simp only [bind_okS]; done) | (simp only [bind_okS, bind_ret]; done) | (simp only [bind_okS, bind_ret, bind_bind]; done) | exact congrArg _ (funext fun _ => congrArg _ (funext fun _ => congrArg ok (decide_eq_decide.mpr Iff.rfl)))))))))
theorem sc__law_is_mod : FnScope N__law_is_mod ["_law_found", "_law_p"] (defScope s__law_is_mod) := ⟨rfl, rfl, rfl, by decide +kernel, rfl, by decide +kernel, by decide +kernel⟩
theorem fx__law_is_mod (T : Facts K mg) : Fx P w K mg base "_law_is_mod" 3 (.cons (tRow tInt) (.cons tInt .nil)) (dat tBool) (fun t => m__law_is_mod t.1 t.2.1) :=
  fx_ret N__law_is_mod ["_law_found", "_law_p"] T.d__law_is_mod sc__law_is_mod rfl (fun _ _ _ _ _ _ us hl => match us, hl with | [_, _], _ => rfl) fun cdv f A outer s H E t => (by show JB _ _ _ _ _ _ (m__law_is_mod t.1 t.2.1); unfold m__law_is_mod; exact (J_last (S_retT (E_eq (E_and (E_call (fx__law_is_poly T) (Nat.le_of_ble_eq_true rfl) (A_cons (E_var 0) fun _ => A_nil) [] rfl) (E_one (E_all T.n_all (E_borF (E_comp (C_map (own := [("_law_place", 2)]) (hok := (by first | (show blkC N__law_is_mod (defScope s__law_is_mod) _ _ = true; decide +kernel) | kernel_rfl)) (I_eq (I_tup (E_var 0)) (by first | with_reducible rfl | (simp only [bind_okS]; done) | (simp only [bind_okS, bind_ret]; done) | (simp only [bind_okS, bind_ret, bind_bind]; done) | exact congrArg _ (funext fun _ => congrArg _ (funext fun _ => congrArg ok (decide_eq_decide.mpr Iff.rfl))))) (fun _ _ _ _ _ => (G_name 2)) (fun _ _ _ _ _ place3 => (E_eq (E_chain op_le op_lt (cp_le _) (cp_lt _) E_int (E_var 2) (E_var 1)) (by first | with_reducible rfl | (simp only [bind_okS]; done) | (simp only [bind_okS, bind_ret]; done) | (simp only [bind_okS, bind_ret, bind_bind]; done) | exact congrArg _ (funext fun _ => congrArg _ (funext fun _ => congrArg ok (decide_eq_decide.mpr Iff.rfl)))))))))))) (by first | with_reducible rfl | (simp only [bind_okS]; done) | (simp only [bind_okS, bind_ret]; done) | (simp only [bind_okS, bind_ret, bind_bind]; done) | exact congrArg _ (funext fun _ => congrArg _ (funext fun _ => congrArg ok (decide_eq_decide.mpr Iff.rfl))))))))
theorem sc__law_due : FnScope N__law_due ["_law_p", "_law_r", "_law_s", "_law_e", "_law_u", "_law_ways"] (defScope s__law_due) := ⟨rfl, rfl, rfl, by decide +kernel, rfl, by decide +kernel, by decide +kernel⟩
theorem fx__law_due (T : Facts K mg) : Fx P w K mg base "_law_due" 1 (.cons tInt (.cons tInt (.cons tInt (.cons tInt (.cons tInt (.cons (tRow tInt) .nil)))))) (own (tRec2 (tRow tInt) tInt)) (fun t => m__law_due t.1 t.2.1 t.2.2.1 t.2.2.2.1 t.2.2.2.2.1 t.2.2.2.2.2.1) :=
  fx_ret N__law_due ["_law_p", "_law_r", "_law_s", "_law_e", "_law_u", "_law_ways"] T.d__law_due sc__law_due rfl (fun _ _ _ _ _ _ us hl => match us, hl with | [_, _, _, _, _, _], _ => rfl) fun cdv f A outer s H E t => (J_cons (S_set 6 (E_eq (E_frz (E_cat (E_borTF (E_rep (E_borTF (E_lst (I_cons (E_mod (E_neg (E_var 1)) (E_var 0)) fun _ => I_nil))) (E_ixT (E_var 5) E_int))) (E_borTF (E_rep (E_borTF (E_lst (I_cons (E_mod (E_neg (E_var 2)) (E_var 0)) fun _ => I_nil))) (E_ixT (E_var 5) E_int))))) (by first | with_reducible rfl | (simp only [bind_okS]; done) | (simp only [bind_okS, bind_ret]; done) | (simp only [bind_okS, bind_ret, bind_bind]; done) | exact congrArg _ (funext fun _ => congrArg _ (funext fun _ => congrArg ok (decide_eq_decide.mpr Iff.rfl)))))) fun lows7 => (J_cons (S_setO 7 (E_eq (E_eq (E_lst I_nil) (psz_w (xs := ([] : List ((List Int) × Int))) rfl)) (by first | with_reducible rfl | (simp only [bind_okS]; done) | (simp only [bind_okS, bind_ret]; done) | (simp only [bind_okS, bind_ret, bind_bind]; done) | exact congrArg _ (funext fun _ => congrArg _ (funext fun _ => congrArg ok (decide_eq_decide.mpr Iff.rfl)))))) fun rows16 => (J_cons (Γ1 := fun rows23 : (List ((List Int) × Int)) => [eD 0 tInt t.1, eD 3 tInt t.2.2.2.1, eD 4 tInt t.2.2.2.2.1, eD 5 (tRow tInt) t.2.2.2.2.2.1, eD 6 (tLst tInt) lows7, eO 7 (tRec2 (tRow tInt) tInt) rows23]) (S_if (B_eq (B_w (W_and (B_cmp op_gt (cp_gt _) (nomark _) (E_ixT (E_var 5) E_int) E_int) (W_and1 (B_cmp op_eq (cp_eq _) (nomark _) (E_var 0) E_int)))) (by first | with_reducible rfl | (simp only [bind_okS]; done) | (simp only [bind_okS, bind_ret]; done) | (simp only [bind_okS, bind_ret, bind_bind]; done) | exact congrArg _ (funext fun _ => congrArg _ (funext fun _ => congrArg ok (decide_eq_decide.mpr Iff.rfl))))) (J_cons (S_eq (S_append 7 (E_rec2 (A_cons (E_eq (E_row (I_cons E_int fun _ => (I_cons E_int fun _ => (I_cons E_int fun _ => I_nil)))) (psz_w (xs := [1, 1, 1]) rfl)) fun _ => (A_cons (E_ixT (E_var 5) E_int) fun _ => A_nil)))) (by first | with_reducible rfl | (simp only [bind_okS]; done) | (simp only [bind_okS, bind_ret]; done) | (simp only [bind_okS, bind_ret, bind_bind]; done) | exact congrArg _ (funext fun _ => congrArg _ (funext fun _ => congrArg ok (decide_eq_decide.mpr Iff.rfl))))) fun rows22 => (J_nil [0, 3, 4, 5, 6, 7] (rows22))) (J_nil [0, 3, 4, 5, 6, 7] (rows16))) fun rows23 => (J_cons (Γ1 := fun s51 : (List Int) × (List ((List Int) × Int)) => [eD 6 (tLst tInt) s51.1, eO 7 (tRec2 (tRow tInt) tInt) s51.2]) (S_if (B_eq (B_w (W_and (B_cmp op_gt (cp_gt _) (nomark _) (E_ixT (E_var 5) E_int) E_int) (W_and1 (B_cmp op_gt (cp_gt _) (nomark _) (E_var 0) E_int)))) (by first | with_reducible rfl | (simp only [bind_okS]; done) | (simp only [bind_okS, bind_ret]; done) | (simp only [bind_okS, bind_ret, bind_bind]; done) | exact congrArg _ (funext fun _ => congrArg _ (funext fun _ => congrArg ok (decide_eq_decide.mpr Iff.rfl))))) (J_cons (S_eq (S_compF 8 (C_comp (own := [("_law_v", 9)]) (hok := (by first | (show blkC N__law_due (defScope s__law_due) _ _ = true; decide +kernel) | kernel_rfl)) (I_eq (I_rangeI T.n_range (E_var 0)) (by first | with_reducible rfl | (simp only [bind_okS]; done) | (simp only [bind_okS, bind_ret]; done) | (simp only [bind_okS, bind_ret, bind_bind]; done) | exact congrArg _ (funext fun _ => congrArg _ (funext fun _ => congrArg ok (decide_eq_decide.mpr Iff.rfl))))) (fun _ _ _ _ _ => (G_name 9)) (fun _ _ _ _ _ v28 => (Bs_one (B_eq (B_cmp op_eq (cp_eq _) (nomark _) (E_mod (E_mul (E_var 9) (E_var 9)) (E_var 0)) (E_var 4)) (by first | with_reducible rfl | (simp only [bind_okS]; done) | (simp only [bind_okS, bind_ret]; done) | (simp only [bind_okS, bind_ret, bind_bind]; done) | exact congrArg _ (funext fun _ => congrArg _ (funext fun _ => congrArg ok (decide_eq_decide.mpr Iff.rfl))))))) (fun _ _ _ _ _ v28 => (E_eq (E_var 9) (by first | with_reducible rfl | (simp only [bind_okS]; done) | (simp only [bind_okS, bind_ret]; done) | (simp only [bind_okS, bind_ret, bind_bind]; done) | exact congrArg _ (funext fun _ => congrArg _ (funext fun _ => congrArg ok (decide_eq_decide.mpr Iff.rfl)))))))) (by first | with_reducible rfl | (simp only [bind_okS]; done) | (simp only [bind_okS, bind_ret]; done) | (simp only [bind_okS, bind_ret, bind_bind]; done) | exact congrArg _ (funext fun _ => congrArg _ (funext fun _ => congrArg ok (decide_eq_decide.mpr Iff.rfl))))) fun sides27 => (J_last (S_if (B_eq (B_cmp op_eq (cp_eq _) (nomark _) (E_lenL T.n_len (E_bor (E_var 8))) E_int) (by first | with_reducible rfl | (simp only [bind_okS]; done) | (simp only [bind_okS, bind_ret]; done) | (simp only [bind_okS, bind_ret, bind_bind]; done) | exact congrArg _ (funext fun _ => congrArg _ (funext fun _ => congrArg ok (decide_eq_decide.mpr Iff.rfl))))) (J_cons (S_eq (S_append 7 (E_rec2 (A_cons (E_row (I_cons (E_mod (E_sub (E_mul (E_var 3) (E_var 3)) (E_var 4)) (E_var 0)) fun _ => (I_cons (E_mod (E_mulL (by decide) (E_neg E_int) (E_var 3)) (E_var 0)) fun _ => (I_cons E_int fun _ => I_nil)))) fun _ => (A_cons (E_ixT (E_var 5) E_int) fun _ => A_nil)))) (by first | with_reducible rfl | (simp only [bind_okS]; done) | (simp only [bind_okS, bind_ret]; done) | (simp only [bind_okS, bind_ret, bind_bind]; done) | exact congrArg _ (funext fun _ => congrArg _ (funext fun _ => congrArg ok (decide_eq_decide.mpr Iff.rfl))))) fun rows39 => (J_nil [6, 7] (lows7, rows39))) (J_cons (S_set 6 (E_eq (E_frz (E_cat (E_borT (E_var 6)) (E_borTF (E_rep (E_borTF (E_lst (I_cons (E_mod (E_sub (E_ixL (E_bor (E_var 8)) E_int) (E_var 3)) (E_var 0)) fun _ => (I_cons (E_mod (E_sub (E_neg (E_ixL (E_bor (E_var 8)) E_int)) (E_var 3)) (E_var 0)) fun _ => I_nil)))) (E_ixT (E_var 5) E_int))))) (by first | with_reducible rfl | (simp only [bind_okS]; done) | (simp only [bind_okS, bind_ret]; done) | (simp only [bind_okS, bind_ret, bind_bind]; done) | exact congrArg _ (funext fun _ => congrArg _ (funext fun _ => congrArg ok (decide_eq_decide.mpr Iff.rfl)))))) fun lows40 => (J_nil [6, 7] (lows40, rows23)))))) (J_nil [6, 7] (lows7, rows23))) fun s51 => (J_last (S_retT (E_eq (E_cat (E_borTF (E_comp (C_map (own := [("_law_low", 10)]) (hok := (by first | (show blkC N__law_due (defScope s__law_due) _ _ = true; decide +kernel) | kernel_rfl)) (I_eq (I_list (E_frz (E_sortSet T.n_sorted T.n_set (E_bor (E_var 6))))) (by first | with_reducible rfl | (simp only [bind_okS]; done) | (simp only [bind_okS, bind_ret]; done) | (simp only [bind_okS, bind_ret, bind_bind]; done) | exact congrArg _ (funext fun _ => congrArg _ (funext fun _ => congrArg ok (decide_eq_decide.mpr Iff.rfl))))) (fun _ _ _ _ _ => (G_name 10)) (fun _ _ _ _ _ low52 => (E_eq (E_rec2 (A_cons (E_eq (E_row (I_cons (E_var 10) fun _ => (I_cons E_int fun _ => I_nil))) (psz_w (xs := [low52, 1]) rfl)) fun _ => (A_cons (E_eq (E_cnt (E_bor (E_var 6)) (E_var 10)) (by first | with_reducible rfl | (simp only [bind_okS]; done) | (simp only [bind_okS, bind_ret]; done) | (simp only [bind_okS, bind_ret, bind_bind]; done) | exact congrArg _ (funext fun _ => congrArg _ (funext fun _ => congrArg ok (decide_eq_decide.mpr Iff.rfl))))) fun _ => A_nil))) (by first | with_reducible rfl | (simp only [bind_okS]; done) | (simp only [bind_okS, bind_ret]; done) | (simp only [bind_okS, bind_ret, bind_bind]; done) | exact congrArg _ (funext fun _ => congrArg _ (funext fun _ => congrArg ok (decide_eq_decide.mpr Iff.rfl))))))))) (E_ownT 7)) (by first | with_reducible rfl | (simp only [bind_okS]; done) | (simp only [bind_okS, bind_ret]; done) | (simp only [bind_okS, bind_ret, bind_bind]; done) | exact congrArg _ (funext fun _ => congrArg _ (funext fun _ => congrArg ok (decide_eq_decide.mpr Iff.rfl)))))))))))
theorem sc__law_refused : FnScope N__law_refused ["_law_poly", "_law_p"] (defScope s__law_refused) := ⟨rfl, rfl, rfl, by decide +kernel, rfl, by decide +kernel, by decide +kernel⟩
theorem fx__law_refused (T : Facts K mg) : Fx P w K mg base "_law_refused" 6 (.cons (tRow tInt) (.cons tInt .nil)) (dat tBool) (fun t => m__law_refused t.1 t.2.1) :=
  fx_ret N__law_refused ["_law_poly", "_law_p"] T.d__law_refused sc__law_refused rfl (fun _ _ _ _ _ _ us hl => match us, hl with | [_, _], _ => rfl) fun cdv f A outer s H E t => (J_cons (S_set 2 (E_eq E_int (by first | with_reducible rfl | (simp only [bind_okS]; done) | (simp only [bind_okS, bind_ret]; done) | (simp only [bind_okS, bind_ret, bind_bind]; done) | exact congrArg _ (funext fun _ => congrArg _ (funext fun _ => congrArg ok (decide_eq_decide.mpr Iff.rfl)))))) fun marks3 => (J_cons (Γ1 := fun marks12 : Int => [eD 0 (tRow tInt) t.1, eD 1 tInt t.2.1, eD 2 tInt marks12]) (S_tryH [0, 1, 2] [] (fun _ _ _ => (J_cons (S_eq (S_expr (E_call (fx_split_by T) (Nat.le_of_ble_eq_true rfl) (A_cons (E_var 0) fun _ => (A_cons (E_var 1) fun _ => A_nil)) [0, 1, 2] rfl)) (by first | with_reducible rfl | (simp only [bind_okS]; done) | (simp only [bind_okS, bind_ret]; done) | (simp only [bind_okS, bind_ret, bind_bind]; done) | exact congrArg _ (funext fun _ => congrArg _ (funext fun _ => congrArg ok (decide_eq_decide.mpr Iff.rfl))))) fun _ => (J_nil [0, 1, 2] (marks3)))) (HdT.named 3 T.sub_RingError rfl (by decide) rfl rfl (by intro t; first | rfl | (cases t <;> first | rfl | exact True.intro)) (fun e5 _ _ _ _ _ hz_e hf_e => (J_cons (S_set 2 (E_eq (E_add (E_var 2) (E_intB T.n_int (E_and (E_isiF 3 T.isi_NoPrime T.n_isinstance hz_e hf_e) (E_and (E_isiF 3 T.isi_ValueError T.n_isinstance hz_e hf_e) (E_one (E_not (E_isiF 3 T.isi_NotTwo T.n_isinstance hz_e hf_e))))))) (by first | with_reducible rfl | (simp only [bind_okS]; done) | (simp only [bind_okS, bind_ret]; done) | (simp only [bind_okS, bind_ret, bind_bind]; done) | exact congrArg _ (funext fun _ => congrArg _ (funext fun _ => congrArg ok (decide_eq_decide.mpr Iff.rfl)))))) fun marks6 => (J_nil [0, 1, 2] (marks6)))) HdT.nil)) fun marks12 => (J_cons (Γ1 := fun marks15 : Int => [eD 2 tInt marks15]) (S_try tbl_NoPrime T.sub_NoPrime [2] [] (fun _ _ _ => (J_cons (S_eq (S_expr (E_call (fx_stays T) (Nat.le_of_ble_eq_true rfl) (A_cons (E_var 0) fun _ => (A_cons (E_var 1) fun _ => A_nil)) [2] rfl)) (by first | with_reducible rfl | (simp only [bind_okS]; done) | (simp only [bind_okS, bind_ret]; done) | (simp only [bind_okS, bind_ret, bind_bind]; done) | exact congrArg _ (funext fun _ => congrArg _ (funext fun _ => congrArg ok (decide_eq_decide.mpr Iff.rfl))))) fun _ => (J_nil [2] (marks12)))) (fun _ _ => (J_cons (S_set 2 (E_eq (E_add (E_var 2) E_int) (by first | with_reducible rfl | (simp only [bind_okS]; done) | (simp only [bind_okS, bind_ret]; done) | (simp only [bind_okS, bind_ret, bind_bind]; done) | exact congrArg _ (funext fun _ => congrArg _ (funext fun _ => congrArg ok (decide_eq_decide.mpr Iff.rfl)))))) fun marks14 => (J_nil [2] (marks14))))) fun marks15 => (J_last (S_retT (E_eq (E_cmp op_eq (cp_eq _) (nomark _) (E_var 2) E_int) (by first | with_reducible rfl | (simp only [bind_okS]; done) | (simp only [bind_okS, bind_ret]; done) | (simp only [bind_okS, bind_ret, bind_bind]; done) | exact congrArg _ (funext fun _ => congrArg _ (funext fun _ => congrArg ok (decide_eq_decide.mpr Iff.rfl))))))))))
theorem sc_law : FnScope N_law ["_law_script"] (defScope s_law) := ⟨rfl, rfl, rfl, by decide +kernel, rfl, by decide +kernel, by decide +kernel⟩
theorem ok_law (T : Facts K mg) {f : Addr} {fd : FuncData} (F : Fun K "law" "law" s_law f fd) : FnOk P w K mg base (L2.CX P w) 7 f fd ["_law_script"] (spT K mg (.cons tScr .nil) (dat tBool) (fun t => m_law t.1)) :=
  fn_ret F sc_law rfl fun cdv A outer s H E t => (J_cons (S_set 1 (E_eq (E_call (fx__law_prime T) (Nat.le_of_ble_eq_true rfl) (A_cons (E_call (fx__law_cell T) (Nat.le_of_ble_eq_true rfl) (A_cons (E_var 0) fun _ => (A_cons E_int fun _ => A_nil)) [] rfl) fun _ => (A_cons E_int fun _ => A_nil)) [] rfl) (by first | with_reducible rfl | (simp only [bind_okS]; done) | (simp only [bind_okS, bind_ret]; done) | (simp only [bind_okS, bind_ret, bind_bind]; done) | exact congrArg _ (funext fun _ => congrArg _ (funext fun _ => congrArg ok (decide_eq_decide.mpr Iff.rfl)))))) fun p2 => (J_cons (S_set 2 (E_eq (E_frz (E_eq (E_lst (I_cons (E_eq (E_row (I_cons E_int fun _ => (I_cons E_int fun _ => (I_cons E_int fun _ => I_nil)))) (psz_w (xs := [1, 0, 0]) rfl)) fun _ => (I_cons (E_eq (E_row (I_cons E_int fun _ => (I_cons E_int fun _ => (I_cons E_int fun _ => I_nil)))) (psz_w (xs := [2, 0, 0]) rfl)) fun _ => (I_cons (E_eq (E_row (I_cons E_int fun _ => (I_cons E_int fun _ => (I_cons E_int fun _ => I_nil)))) (psz_w (xs := [3, 0, 0]) rfl)) fun _ => (I_cons (E_eq (E_row (I_cons E_int fun _ => (I_cons E_int fun _ => (I_cons E_int fun _ => I_nil)))) (psz_w (xs := [4, 0, 0]) rfl)) fun _ => (I_cons (E_eq (E_row (I_cons E_int fun _ => (I_cons E_int fun _ => (I_cons E_int fun _ => I_nil)))) (psz_w (xs := [1, 1, 0]) rfl)) fun _ => (I_cons (E_eq (E_row (I_cons E_int fun _ => (I_cons E_int fun _ => (I_cons E_int fun _ => I_nil)))) (psz_w (xs := [2, 1, 0]) rfl)) fun _ => (I_cons (E_eq (E_row (I_cons E_int fun _ => (I_cons E_int fun _ => (I_cons E_int fun _ => I_nil)))) (psz_w (xs := [1, 2, 0]) rfl)) fun _ => (I_cons (E_eq (E_row (I_cons E_int fun _ => (I_cons E_int fun _ => (I_cons E_int fun _ => I_nil)))) (psz_w (xs := [2, 2, 0]) rfl)) fun _ => (I_cons (E_eq (E_row (I_cons E_int fun _ => (I_cons E_int fun _ => (I_cons E_int fun _ => I_nil)))) (psz_w (xs := [3, 1, 0]) rfl)) fun _ => I_nil)))))))))) (psz_w (xs := [[1, 0, 0], [2, 0, 0], [3, 0, 0], [4, 0, 0], [1, 1, 0], [2, 1, 0], [1, 2, 0], [2, 2, 0], [3, 1, 0]]) rfl))) (by first | with_reducible rfl | (simp only [bind_okS]; done) | (simp only [bind_okS, bind_ret]; done) | (simp only [bind_okS, bind_ret, bind_bind]; done) | exact congrArg _ (funext fun _ => congrArg _ (funext fun _ => congrArg ok (decide_eq_decide.mpr Iff.rfl)))))) fun rows4 => (J_cons (S_set 2 (E_eq (E_frz (E_cat (E_borT (E_var 2)) (E_borTF (E_eq (E_lst (I_cons (E_eq (E_row (I_cons E_int fun _ => (I_cons E_int fun _ => (I_cons E_int fun _ => I_nil)))) (psz_w (xs := [1, 0, 1]) rfl)) fun _ => (I_cons (E_eq (E_row (I_cons E_int fun _ => (I_cons E_int fun _ => (I_cons E_int fun _ => I_nil)))) (psz_w (xs := [2, 0, 1]) rfl)) fun _ => (I_cons (E_eq (E_row (I_cons E_int fun _ => (I_cons E_int fun _ => (I_cons E_int fun _ => I_nil)))) (psz_w (xs := [1, 1, 1]) rfl)) fun _ => (I_cons (E_eq (E_row (I_cons E_int fun _ => (I_cons E_int fun _ => (I_cons E_int fun _ => I_nil)))) (psz_w (xs := [0, 0, 1]) rfl)) fun _ => (I_cons (E_eq (E_row (I_cons E_int fun _ => (I_cons E_int fun _ => (I_cons E_int fun _ => I_nil)))) (psz_w (xs := [0, 0, 2]) rfl)) fun _ => I_nil)))))) (psz_w (xs := [[1, 0, 1], [2, 0, 1], [1, 1, 1], [0, 0, 1], [0, 0, 2]]) rfl))))) (by first | with_reducible rfl | (simp only [bind_okS]; done) | (simp only [bind_okS, bind_ret]; done) | (simp only [bind_okS, bind_ret, bind_bind]; done) | exact congrArg _ (funext fun _ => congrArg _ (funext fun _ => congrArg ok (decide_eq_decide.mpr Iff.rfl)))))) fun rows5 => (J_cons (S_set 3 (E_eq (E_frz (E_call (fx__law_draws T) (Nat.le_of_ble_eq_true rfl) (A_cons (E_call (fx__law_cell T) (Nat.le_of_ble_eq_true rfl) (A_cons (E_var 0) fun _ => (A_cons E_int fun _ => A_nil)) [] rfl) fun _ => (A_cons (E_frz (E_eq (E_lst (I_cons E_int fun _ => (I_cons E_int fun _ => (I_cons E_int fun _ => I_nil)))) (psz_w (xs := [14, 3, 6]) rfl))) fun _ => (A_cons E_int fun _ => A_nil))) [] rfl)) (by first | with_reducible rfl | (simp only [bind_okS]; done) | (simp only [bind_okS, bind_ret]; done) | (simp only [bind_okS, bind_ret, bind_bind]; done) | exact congrArg _ (funext fun _ => congrArg _ (funext fun _ => congrArg ok (decide_eq_decide.mpr Iff.rfl)))))) fun way6 => (J_cons (S_set 4 (E_eq (E_ixL (E_bor (E_var 2)) (E_ixL (E_bor (E_var 3)) E_int)) (by first | with_reducible rfl | (simp only [bind_okS]; done) | (simp only [bind_okS, bind_ret]; done) | (simp only [bind_okS, bind_ret, bind_bind]; done) | exact congrArg _ (funext fun _ => congrArg _ (funext fun _ => congrArg ok (decide_eq_decide.mpr Iff.rfl)))))) fun ways8 => (J_cons (S_unpack (G_lr4K K (G_name 5) (G_name 6) (G_name 7) (G_name 8)) (E_eq (E_asL4 (E_frz (E_call (fx__law_mod_places T) (Nat.le_of_ble_eq_true rfl) (A_cons (E_call (fx__law_cell T) (Nat.le_of_ble_eq_true rfl) (A_cons (E_var 0) fun _ => (A_cons E_int fun _ => A_nil)) [] rfl) fun _ => (A_cons E_int fun _ => (A_cons (E_var 1) fun _ => (A_cons E_int fun _ => A_nil)))) [] rfl))) (by first | with_reducible rfl | (simp only [bind_okS]; done) | (simp only [bind_okS, bind_ret]; done) | (simp only [bind_okS, bind_ret, bind_bind]; done) | exact congrArg _ (funext fun _ => congrArg _ (funext fun _ => congrArg ok (decide_eq_decide.mpr Iff.rfl)))))) fun p12 => (J_cons (S_set 9 (E_eq (E_row (I_cons (E_mod (E_sub (E_mul (E_var 7) (E_var 7)) (E_var 8)) (E_var 1)) fun _ => (I_cons (E_mod (E_mulL (by decide) (E_neg E_int) (E_var 7)) (E_var 1)) fun _ => (I_cons E_int fun _ => I_nil)))) (by first | with_reducible rfl | (simp only [bind_okS]; done) | (simp only [bind_okS, bind_ret]; done) | (simp only [bind_okS, bind_ret, bind_bind]; done) | exact congrArg _ (funext fun _ => congrArg _ (funext fun _ => congrArg ok (decide_eq_decide.mpr Iff.rfl)))))) fun h13 => (J_cons (Γ1 := fun h20 : (List Int) => [eD 0 tScr t.1, eD 1 tInt p2, eD 3 (tLst tInt) way6, eD 4 (tRow tInt) ways8, eD 5 tInt p12.1, eD 6 tInt p12.2.1, eD 7 tInt p12.2.2.1, eD 8 tInt p12.2.2.2, eD 9 (tRow tInt) h20]) (S_if (B_eq (B_cmp op_eq (cp_eq _) (nomark _) (E_var 1) E_int) (by first | with_reducible rfl | (simp only [bind_okS]; done) | (simp only [bind_okS, bind_ret]; done) | (simp only [bind_okS, bind_ret, bind_bind]; done) | exact congrArg _ (funext fun _ => congrArg _ (funext fun _ => congrArg ok (decide_eq_decide.mpr Iff.rfl))))) (J_cons (S_set 9 (E_eq (E_eq (E_row (I_cons E_int fun _ => (I_cons E_int fun _ => (I_cons E_int fun _ => I_nil)))) (psz_w (xs := [1, 1, 1]) rfl)) (by first | with_reducible rfl | (simp only [bind_okS]; done) | (simp only [bind_okS, bind_ret]; done) | (simp only [bind_okS, bind_ret, bind_bind]; done) | exact congrArg _ (funext fun _ => congrArg _ (funext fun _ => congrArg ok (decide_eq_decide.mpr Iff.rfl)))))) fun h19 => (J_nil [0, 1, 3, 4, 5, 6, 7, 8, 9] (h19))) (J_nil [0, 1, 3, 4, 5, 6, 7, 8, 9] (h13))) fun h20 => (J_cons (S_set 10 (E_eq (E_eq (E_row (I_cons E_int fun _ => I_nil)) (psz_w (xs := [1]) rfl)) (by first | with_reducible rfl | (simp only [bind_okS]; done) | (simp only [bind_okS, bind_ret]; done) | (simp only [bind_okS, bind_ret, bind_bind]; done) | exact congrArg _ (funext fun _ => congrArg _ (funext fun _ => congrArg ok (decide_eq_decide.mpr Iff.rfl)))))) fun raw21 => (J_cons (S_for (Γl := fun raw35 : (List Int) => [eD 0 tScr t.1, eD 1 tInt p2, eD 3 (tLst tInt) way6, eD 4 (tRow tInt) ways8, eD 5 tInt p12.1, eD 6 tInt p12.2.1, eD 7 tInt p12.2.2.1, eD 8 tInt p12.2.2.2, eD 10 (tRow tInt) raw35]) [0, 1, 3, 4, 5, 6, 7, 8, 10] (raw21) (I_eq (I_list (E_frz (E_cat (E_borTF (E_cat (E_borTF (E_rep (E_borTF (E_lst (I_cons (E_row (I_cons (E_mod (E_neg (E_var 5)) (E_var 1)) fun _ => (I_cons E_int fun _ => I_nil))) fun _ => I_nil))) (E_ixT (E_var 4) E_int))) (E_borTF (E_rep (E_borTF (E_lst (I_cons (E_row (I_cons (E_mod (E_neg (E_var 6)) (E_var 1)) fun _ => (I_cons E_int fun _ => I_nil))) fun _ => I_nil))) (E_ixT (E_var 4) E_int))))) (E_borTF (E_rep (E_borTF (E_eq (E_lst (I_cons (E_var 9) fun _ => I_nil)) (psz_w (xs := [h20]) rfl))) (E_ixT (E_var 4) E_int)))))) (by first | with_reducible rfl | (simp only [bind_okS]; done) | (simp only [bind_okS, bind_ret]; done) | (simp only [bind_okS, bind_ret, bind_bind]; done) | exact congrArg _ (funext fun _ => congrArg _ (funext fun _ => congrArg ok (decide_eq_decide.mpr Iff.rfl))))) (G_name 11) (fun raw35 factor36 => (J_cons (S_set 10 (E_eq (E_call (fx__law_mod_times T) (Nat.le_of_ble_eq_true rfl) (A_cons (E_var 10) fun _ => (A_cons (E_var 11) fun _ => (A_cons (E_var 1) fun _ => A_nil))) [] rfl) (by first | with_reducible rfl | (simp only [bind_okS]; done) | (simp only [bind_okS, bind_ret]; done) | (simp only [bind_okS, bind_ret, bind_bind]; done) | exact congrArg _ (funext fun _ => congrArg _ (funext fun _ => congrArg ok (decide_eq_decide.mpr Iff.rfl)))))) fun raw37 => (J_nil [0, 1, 3, 4, 5, 6, 7, 8, 10] (raw37))))) fun raw38 => (J_cons (S_set 12 (E_eq (E_tupleL T.n_tuple (E_borF (E_cat (E_borTF (E_call (fx__law_written T) (Nat.le_of_ble_eq_true rfl) (A_cons (E_slT (E_var 10) O_none (O_some (E_neg E_int))) fun _ => (A_cons (E_var 1) fun _ => (A_cons (E_call (fx__law_cell T) (Nat.le_of_ble_eq_true rfl) (A_cons (E_var 0) fun _ => (A_cons E_int fun _ => A_nil)) [] rfl) fun _ => (A_cons E_int fun _ => A_nil)))) [] rfl)) (E_borTF (E_eq (E_lst (I_cons E_int fun _ => I_nil)) (psz_w (xs := [1]) rfl)))))) (by first | with_reducible rfl | (simp only [bind_okS]; done) | (simp only [bind_okS, bind_ret]; done) | (simp only [bind_okS, bind_ret, bind_bind]; done) | exact congrArg _ (funext fun _ => congrArg _ (funext fun _ => congrArg ok (decide_eq_decide.mpr Iff.rfl)))))) fun poly39 => (J_ifrT (B_eq (B_cmp op_eq (cp_eq _) (nomark _) (E_ixL (E_bor (E_var 3)) E_int) E_int) (by first | with_reducible rfl | (simp only [bind_okS]; done) | (simp only [bind_okS, bind_ret]; done) | (simp only [bind_okS, bind_ret, bind_bind]; done) | exact congrArg _ (funext fun _ => congrArg _ (funext fun _ => congrArg ok (decide_eq_decide.mpr Iff.rfl))))) (J_cons (S_set 13 (E_eq (E_call (fx__law_far T) (Nat.le_of_ble_eq_true rfl) (A_cons (E_call (fx__law_cell T) (Nat.le_of_ble_eq_true rfl) (A_cons (E_var 0) fun _ => (A_cons E_int fun _ => A_nil)) [] rfl) fun _ => (A_cons E_int fun _ => (A_cons (E_powK (c := 1000000000000000000000000) 24 (by decide) (by decide) (by decide +kernel) E_int E_int) fun _ => (A_cons E_int fun _ => A_nil)))) [] rfl) (by first | with_reducible rfl | (simp only [bind_okS]; done) | (simp only [bind_okS, bind_ret]; done) | (simp only [bind_okS, bind_ret, bind_bind]; done) | exact congrArg _ (funext fun _ => congrArg _ (funext fun _ => congrArg ok (decide_eq_decide.mpr Iff.rfl)))))) fun far_here44 => (J_cons (S_set 14 (E_eq (E_ixL (E_borF (E_eq (E_lst (I_cons E_int fun _ => (I_cons E_int fun _ => (I_cons E_int fun _ => (I_cons E_int fun _ => (I_cons (E_neg (E_abs T.n_abs (E_var 13))) fun _ => (I_cons (E_add E_int (E_mulR (by decide) (E_abs T.n_abs (E_var 13)) E_int)) fun _ => I_nil))))))) (psz_w (xs := [1, 4, 201, 211, (-(Int.natAbs far_here44 : Int)), (200 + ((Int.natAbs far_here44 : Int) * 2))]) rfl))) (E_ixL (E_bor (E_var 3)) E_int)) (by first | with_reducible rfl | (simp only [bind_okS]; done) | (simp only [bind_okS, bind_ret]; done) | (simp only [bind_okS, bind_ret, bind_bind]; done) | exact congrArg _ (funext fun _ => congrArg _ (funext fun _ => congrArg ok (decide_eq_decide.mpr Iff.rfl)))))) fun bad46 => (J_last (S_retT (E_eq (E_call (fx__law_refused T) (Nat.le_of_ble_eq_true rfl) (A_cons (E_var 12) fun _ => (A_cons (E_var 14) fun _ => A_nil)) [] rfl) (by first | with_reducible rfl | (simp only [bind_okS]; done) | (simp only [bind_okS, bind_ret]; done) | (simp only [bind_okS, bind_ret, bind_bind]; done) | exact congrArg _ (funext fun _ => congrArg _ (funext fun _ => congrArg ok (decide_eq_decide.mpr Iff.rfl))))))))) (J_cons (S_set 15 (E_eq (E_frz (E_call (fx__law_due T) (Nat.le_of_ble_eq_true rfl) (A_cons (E_var 1) fun _ => (A_cons (E_var 5) fun _ => (A_cons (E_var 6) fun _ => (A_cons (E_var 7) fun _ => (A_cons (E_var 8) fun _ => (A_cons (E_var 4) fun _ => A_nil)))))) [] rfl)) (by first | with_reducible rfl | (simp only [bind_okS]; done) | (simp only [bind_okS, bind_ret]; done) | (simp only [bind_okS, bind_ret, bind_bind]; done) | exact congrArg _ (funext fun _ => congrArg _ (funext fun _ => congrArg ok (decide_eq_decide.mpr Iff.rfl)))))) fun due_here48 => (J_cons (S_set 16 (E_eq (E_frz (E_call (fx_split_by T) (Nat.le_of_ble_eq_true rfl) (A_cons (E_var 12) fun _ => (A_cons (E_var 1) fun _ => A_nil)) [] rfl)) (by first | with_reducible rfl | (simp only [bind_okS]; done) | (simp only [bind_okS, bind_ret]; done) | (simp only [bind_okS, bind_ret, bind_bind]; done) | exact congrArg _ (funext fun _ => congrArg _ (funext fun _ => congrArg ok (decide_eq_decide.mpr Iff.rfl)))))) fun found49 => (J_ifrT (B_eq (B_w (W_or (B_not (B_val (E_isi (C := "list") (r := true) (ty_lst _) (by decide +kernel) T.n_isinstance T.n_list (by decide +kernel) (E_var 16)))) (W_or1 (B_not (B_val (E_all T.n_all (E_borF (E_comp (C_map (own := [("_law_row", 18)]) (hok := (by first | (show blkC N_law (defScope s_law) _ _ = true; decide +kernel) | kernel_rfl)) (I_eq (I_list (E_var 16)) (by first | with_reducible rfl | (simp only [bind_okS]; done) | (simp only [bind_okS, bind_ret]; done) | (simp only [bind_okS, bind_ret, bind_bind]; done) | exact congrArg _ (funext fun _ => congrArg _ (funext fun _ => congrArg ok (decide_eq_decide.mpr Iff.rfl))))) (fun _ _ _ _ _ => (G_name 18)) (fun _ _ _ _ _ row50 => (E_eq (E_and (E_isi (C := "tuple") (r := true) (ty_rec2 _ _) (by decide +kernel) T.n_isinstance T.n_tuple (by decide +kernel) (E_var 18)) (E_one (E_cmp op_eq (cp_eq _) (nomark _) (E_lenR2 T.n_len (E_var 18)) E_int))) (by first | with_reducible rfl | (simp only [bind_okS]; done) | (simp only [bind_okS, bind_ret]; done) | (simp only [bind_okS, bind_ret, bind_bind]; done) | exact congrArg _ (funext fun _ => congrArg _ (funext fun _ => congrArg ok (decide_eq_decide.mpr Iff.rfl))))))))))))))) (by first | with_reducible rfl | (simp only [bind_okS]; done) | (simp only [bind_okS, bind_ret]; done) | (simp only [bind_okS, bind_ret, bind_bind]; done) | exact congrArg _ (funext fun _ => congrArg _ (funext fun _ => congrArg ok (decide_eq_decide.mpr Iff.rfl))))) (J_last (S_retT (E_eq E_bool (by first | with_reducible rfl | (simp only [bind_okS]; done) | (simp only [bind_okS, bind_ret]; done) | (simp only [bind_okS, bind_ret, bind_bind]; done) | exact congrArg _ (funext fun _ => congrArg _ (funext fun _ => congrArg ok (decide_eq_decide.mpr Iff.rfl))))))) (J_ifrT (B_eq (B_not (B_val (E_all T.n_all (E_borF (E_comp (C_map (own := [("_law_row", 18)]) (hok := (by first | (show blkC N_law (defScope s_law) _ _ = true; decide +kernel) | kernel_rfl)) (I_eq (I_list (E_var 16)) (by first | with_reducible rfl | (simp only [bind_okS]; done) | (simp only [bind_okS, bind_ret]; done) | (simp only [bind_okS, bind_ret, bind_bind]; done) | exact congrArg _ (funext fun _ => congrArg _ (funext fun _ => congrArg ok (decide_eq_decide.mpr Iff.rfl))))) (fun _ _ _ _ _ => (G_name 18)) (fun _ _ _ _ _ row56 => (E_eq (E_and (E_call (fx__law_is_mod T) (Nat.le_of_ble_eq_true rfl) (A_cons (E_fst (E_var 18) E_int) fun _ => (A_cons (E_var 1) fun _ => A_nil)) [] rfl) (E_one (E_call (fx__law_whole T) (Nat.le_of_ble_eq_true rfl) (A_cons (E_snd (E_var 18) E_int) fun _ => A_nil) [] rfl))) (by first | with_reducible rfl | (simp only [bind_okS]; done) | (simp only [bind_okS, bind_ret]; done) | (simp only [bind_okS, bind_ret, bind_bind]; done) | exact congrArg _ (funext fun _ => congrArg _ (funext fun _ => congrArg ok (decide_eq_decide.mpr Iff.rfl)))))))))))) (by first | with_reducible rfl | (simp only [bind_okS]; done) | (simp only [bind_okS, bind_ret]; done) | (simp only [bind_okS, bind_ret, bind_bind]; done) | exact congrArg _ (funext fun _ => congrArg _ (funext fun _ => congrArg ok (decide_eq_decide.mpr Iff.rfl))))) (J_last (S_retT (E_eq E_bool (by first | with_reducible rfl | (simp only [bind_okS]; done) | (simp only [bind_okS, bind_ret]; done) | (simp only [bind_okS, bind_ret, bind_bind]; done) | exact congrArg _ (funext fun _ => congrArg _ (funext fun _ => congrArg ok (decide_eq_decide.mpr Iff.rfl))))))) (J_cons (S_set 17 (E_eq (E_call (fx_stays T) (Nat.le_of_ble_eq_true rfl) (A_cons (E_var 12) fun _ => (A_cons (E_var 1) fun _ => A_nil)) [] rfl) (by first | with_reducible rfl | (simp only [bind_okS]; done) | (simp only [bind_okS, bind_ret]; done) | (simp only [bind_okS, bind_ret, bind_bind]; done) | exact congrArg _ (funext fun _ => congrArg _ (funext fun _ => congrArg ok (decide_eq_decide.mpr Iff.rfl)))))) fun told61 => (J_last (S_retT (E_eq (E_and (E_eqP (eLst (eRec2 (eRow eInt) eInt)) (repD_bor (eRec2 (eRow eInt) eInt)) (repD_bor (eRec2 (eRow eInt) eInt)) (by decide) (E_bor (E_var 16)) (E_bor (E_var 15))) (E_and (E_isi (C := "bool") (r := true) ty_bool (by decide +kernel) T.n_isinstance T.n_bool (by decide +kernel) (E_var 17)) (E_one (E_eqP eBool (repD_dat eBool) (repD_dat eBool) (by decide) (E_var 17) (E_and (E_cmp op_eq (cp_eq _) (nomark _) (E_lenL T.n_len (E_bor (E_var 15))) E_int) (E_one (E_cmp op_eq (cp_eq _) (nomark _) (E_snd (E_ixL (E_bor (E_var 15)) E_int) E_int) E_int))))))) (by first | with_reducible rfl | (simp only [bind_okS]; done) | (simp only [bind_okS, bind_ret]; done) | (simp only [bind_okS, bind_ret, bind_bind]; done) | exact congrArg _ (funext fun _ => congrArg _ (funext fun _ => congrArg ok (decide_eq_decide.mpr Iff.rfl))))))))))))))))))))))))
end
end K09Law
set_option maxRecDepth 100000
set_option maxHeartbeats 4000000
namespace K09Law
open T PySem PySem.Spec PyProof.Rows L2
theorem e_cell : m__law_cell = m_cell := rfl
theorem e_draws : m__law_draws = m_draws := rfl
theorem e_split : m_split_by = T.m_split_by := rfl
theorem e_times : m__law_mod_times = m_lmod_times := rfl
theorem e_is_mod : m__law_is_mod = m_is_mod := rfl
theorem e_written : m__law_written = m_written := rfl
theorem e_places : m__law_mod_places = m_mod_places := rfl
theorem e_prime : m__law_prime = m_prime := rfl
theorem e_far : m__law_far = m_far := rfl
/-! ### all factors multiplied -/
theorem fac_loop {p : Int} (h : p ∈ primesL) : ∀ (fs : List (List Int)) (raw : List Int) (n : Nat), (∀ g ∈ fs, Mp p g ∧ g.length ≤ 3) → Mp p raw → raw.length ≤ 3 * n → n + fs.length ≤ 100 →
    ∃ q, loopM (fun (raw35 : (List Int)) factor36 => (M.bind (m_lmod_times raw35 factor36 p) fun raw37 => ok (raw37))) raw fs = ok q ∧ Mp p q ∧ q.length + fs.length = raw.length + (fs.map List.length).sum ∧ Eqp p (PZ.of q) (PZ.of raw * prodF fs)
  | [], raw, n, _, hr, _, _ => ⟨raw, rfl, hr, by simp, by show Eqp p _ (_ * 1); rw [show PZ.of raw * 1 = PZ.of raw by grind]; exact .refl _ _⟩
  | g :: fs, raw, n, hg, hr, hl, hn => by
    obtain ⟨p1, p2⟩ := pr_bd h
    obtain ⟨mg, lg⟩ := hg g List.mem_cons_self
    have sp : Sm 10 p := Sm.of (A := 200) (by omega) (by decide +kernel)
    have hn2 : n + (fs.length + 1) ≤ 100 := hn
    have r1 := hr.pos
    have g1 := mg.pos
    have et := lmod_times_ok (f := raw) (g := g) (p := p) (a := 10) (b := 10) (by omega) (by omega) (by omega) (hr.red.sm sp) (mg.red.sm sp) (by decide)
    have em : Eqp p (PZ.of (modP p (mulP raw g))) (PZ.of raw * PZ.of g) := by
      have := Eqp.cg.mpr (modP_cg p (mulP raw g))
      rwa [PZ.of_mul] at this
    obtain ⟨m1, l1⟩ := mp_of p1 (modP_cut p _) (modP_red (by omega) _) ((hr.mon (n := raw.length - 1) (by omega)).mul (mg.mon (n := g.length - 1) (by omega))) em
    obtain ⟨q, eq, mq, lq, pq⟩ := fac_loop h fs (modP p (mulP raw g)) (n + 1) (fun x hx => hg x (List.mem_cons_of_mem _ hx)) m1 (by omega) (by omega)
    refine ⟨q, ?_, mq, ?_, ?_⟩
    · rw [loopM_cons, et, bind_ok, bind_ok]
      exact eq
    · rw [List.map_cons, List.sum_cons, List.length_cons]
      omega
    · refine pq.trans ?_
      have := em.mul (Eqp.refl p (prodF fs))
      rwa [show PZ.of raw * PZ.of g * prodF fs = PZ.of raw * prodF (g :: fs) by show _ = PZ.of raw * (PZ.of g * prodF fs); grind] at this
/-! ### counted -/
def lin (l : Int) : List Int := [l, 1]
def cnt (lows : List Int) : List (List Int × Int) := (upI lows).map fun l => (lin l, (lows.count l : Int))
theorem cnt_nd (lows : List Int) : ((cnt lows).map (·.1)).Nodup := by
  unfold cnt
  rw [List.map_map]
  exact List.pairwise_map.mpr (upI_up.imp fun {a b} h e => by
    have : a = b := (List.cons.inj (show lin a = lin b from e)).1
    omega)
theorem cnt_map (l : Int) : ∀ lows : List Int, (lows.map lin).count (lin l) = lows.count l
  | [] => rfl
  | a :: t => by
    rw [List.map_cons, List.count_cons, List.count_cons, cnt_map l t]
    by_cases c : a = l
    · subst c; simp
    · have : ¬ lin a = lin l := fun e => c (List.cons.inj e).1
      simp [c, this]
theorem cnt_ex (lows : List Int) : (exF (cnt lows)).Perm (lows.map lin) := by
  refine List.perm_iff_count.mpr fun g => ?_
  obtain ⟨h1, h2⟩ := exF_count (cnt_nd lows) g
  by_cases c : ∃ l ∈ lows, g = lin l
  · obtain ⟨l, hl, rfl⟩ := c
    rw [h1 (lows.count l : Int) (List.mem_map.mpr ⟨l, upI_mem.mpr hl, rfl⟩), Int.toNat_natCast]
    exact (cnt_map l lows).symm
  · rw [h2 (fun z => by
      obtain ⟨x, hx, e⟩ := List.mem_map.mp z
      obtain ⟨l, hl, rfl⟩ := List.mem_map.mp hx
      exact c ⟨l, upI_mem.mp hl, e.symm⟩), List.count_eq_zero_of_not_mem fun z => by
      obtain ⟨l, hl, e⟩ := List.mem_map.mp z
      exact c ⟨l, hl, e.symm⟩]
theorem cnt_prod (lows : List Int) : prodP (cnt lows) = prodF (lows.map lin) := by
  rw [← prodF_ex, prodF_perm (cnt_ex lows)]
theorem cnt_pt {p : Int} (p1 : 1 < p) {lows : List Int} (h : ∀ l ∈ lows, 0 ≤ l ∧ l < p) : ∀ x ∈ cnt lows, Pt p x.1 ∧ 1 ≤ x.2 := fun x hx => by
  obtain ⟨l, hl, rfl⟩ := List.mem_map.mp hx
  have hl := upI_mem.mp hl
  obtain ⟨a, b⟩ := h l hl
  have := List.count_pos_iff.mpr hl
  exact ⟨pt_lin a b p1, by show 1 ≤ (lows.count l : Int); omega⟩
/-- what puts them in order -/
def key (x : List Int × Int) : Int := if x.1.length = 2 then co x.1 0 else 1000
theorem cnt_key (lows : List Int) : (cnt lows).Pairwise fun x y => key x < key y := by
  unfold cnt
  refine List.pairwise_map.mpr (upI_up.imp fun {a b} h => ?_)
  exact h
/-- two splits of one polynomial, one of them in order, are one -/
theorem split_eq {p : Int} (hp : p ∈ primesL) {f : List Int} {parts : List (List Int × Int)} (hs : Split p f parts) {lows : List Int} (hl : ∀ l ∈ lows, 0 ≤ l ∧ l < p) {q : List (List Int × Int)} (hq : q = [] ∨ ∃ x, q = [x] ∧ Pt p x.1 ∧ 1 ≤ x.2 ∧ x.1.length = 3)
    (hm : Eqp p (PZ.of f) (prodP (cnt lows ++ q))) : parts = cnt lows ++ q := by
  obtain ⟨p1, p2⟩ := pr_bd hp
  have hi := invP_of hp
  have qlen : ∀ x ∈ q, Pt p x.1 ∧ 1 ≤ x.2 ∧ x.1.length = 3 := fun x hx => by
    rcases hq with rfl | ⟨y, rfl, h⟩
    · exact nomatch hx
    · rw [List.mem_singleton.mp hx]; exact h
  have c2 : ∀ x ∈ cnt lows, x.1.length = 2 := fun x hx => by
    obtain ⟨l, _, rfl⟩ := List.mem_map.mp hx
    rfl
  have pts : ∀ x ∈ cnt lows ++ q, Pt p x.1 ∧ 1 ≤ x.2 := fun x hx => by
    rcases List.mem_append.mp hx with z | z
    · exact cnt_pt p1 hl x z
    · exact ⟨(qlen x z).1, (qlen x z).2.1⟩
  have nd : ((cnt lows ++ q).map (·.1)).Nodup := by
    rw [List.map_append, List.nodup_append]
    refine ⟨cnt_nd lows, ?_, fun a ha b hb e => ?_⟩
    · rcases hq with rfl | ⟨y, rfl, _⟩ <;> simp
    · obtain ⟨x, hx, rfl⟩ := List.mem_map.mp ha
      obtain ⟨y, hy, rfl⟩ := List.mem_map.mp hb
      have := c2 x hx
      have := (qlen y hy).2.2
      rw [e] at *
      omega
  have pm := parts_perm hi hs.pts pts hs.nd nd (hs.mul.symm.trans hm)
  -- both in order
  have o2 : (cnt lows ++ q).Pairwise fun x y => key x < key y := by
    rw [List.pairwise_append]
    refine ⟨cnt_key lows, ?_, fun a ha b hb => ?_⟩
    · rcases hq with rfl | ⟨y, rfl, _⟩ <;> simp
    · obtain ⟨l, hll, rfl⟩ := List.mem_map.mp ha
      have := hl l (upI_mem.mp hll)
      have e1 : key (lin l, (lows.count l : Int)) = l := rfl
      have e2 : key b = 1000 := by unfold key; rw [if_neg (by rw [(qlen b hb).2.2]; decide)]
      rw [e1, e2]
      omega
  have o1 : parts.Pairwise fun x y => key x < key y := by
    obtain ⟨lins, rest, e, hli, hr⟩ := hs.ord
    have kl : ∀ x ∈ lins, x.1.length = 2 ∧ co x.1 0 < p := fun x hx => by
      obtain ⟨low, k, rfl, h0, h1, _⟩ := hli.mem x hx
      exact ⟨rfl, h1⟩
    have kr : rest = [] ∨ ∃ g k, rest = [(g, k)] ∧ 3 ≤ g.length := by
      rcases hr with z | ⟨g, k, z, h3, _⟩ | ⟨g, k, z, hg, hk, ne, _⟩
      · exact .inl z
      · exact .inr ⟨g, k, z, h3⟩
      · exfalso
        have m1 : (g, 1) ∈ cnt lows ++ q := pm.subset (by rw [e, z]; simp)
        have m2 : (k, 1) ∈ cnt lows ++ q := pm.subset (by rw [e, z]; simp)
        have inq : ∀ y : List Int × Int, y ∈ cnt lows ++ q → y.1.length = 3 → y ∈ q := fun y hy h3 => by
          rcases List.mem_append.mp hy with w | w
          · have := c2 y w; omega
          · exact w
        have n1 := inq _ m1 hg
        have n2 := inq _ m2 hk
        rcases hq with rfl | ⟨y, rfl, _⟩
        · exact nomatch n1
        · have e1 := List.mem_singleton.mp n1
          have e2 := List.mem_singleton.mp n2
          exact ne (congrArg Prod.fst (e1.trans e2.symm))
    rw [e, List.pairwise_append]
    refine ⟨?_, ?_, fun a ha b hb => ?_⟩
    · refine hli.up.imp_of_mem fun {a b} ha hb h => ?_
      unfold key
      rw [if_pos (kl a ha).1, if_pos (kl b hb).1]
      exact h
    · rcases kr with z | ⟨g, k, z, _⟩ <;> rw [z] <;> simp
    · rcases kr with z | ⟨g, k, z, h3⟩
      · rw [z] at hb; exact nomatch hb
      · rw [z] at hb
        rw [List.mem_singleton.mp hb]
        have := kl a ha
        unfold key
        rw [if_pos this.1, if_neg (by show ¬ g.length = 2; omega)]
        omega
  exact List.Perm.eq_of_pairwise (le := fun x y => key x < key y) (fun x y _ _ h1 h2 => by omega) o1 o2 pm
/-! ### what is due -/
theorem quad_exp (x y : Int) : PZ.of [x, y, 1] = (x : PZ) + PZ.X * ((y : PZ) + PZ.X) := by
  rw [PZ.of_cons, PZ.of_cons, PZ.of_one]; grind
theorem lin_exp (x : Int) : PZ.of (lin x) = (x : PZ) + PZ.X := by
  show PZ.of [x, 1] = _
  rw [PZ.of_cons, PZ.of_one]; grind
theorem emod_pz (p x : Int) : Eqp p ((x % p : Int) : PZ) (x : PZ) := ⟨((-(x / p) : Int) : PZ), by
  have h := Int.mul_ediv_add_emod x p
  have : x % p = x + p * (-(x / p)) := by grind
  rw [this]
  have e : ((x + p * (-(x / p)) : Int) : PZ) = (x : PZ) + (p : PZ) * ((-(x / p) : Int) : PZ) := by grind
  rw [e]⟩
/-- the quadratic falls where u has a root -/
theorem h_falls {p e u v : Int} (hv : v * v % p = u % p) : Eqp p (PZ.of [(e * e - u) % p, (-2) * e % p, 1]) (PZ.of (lin ((v - e) % p)) * PZ.of (lin ((-v - e) % p))) := by
  rw [quad_exp, lin_exp, lin_exp]
  have a1 := emod_pz p (e * e - u)
  have a2 := emod_pz p ((-2) * e)
  have a3 := emod_pz p (v - e)
  have a4 := emod_pz p (-v - e)
  refine (a1.add ((Eqp.refl p PZ.X).mul (a2.add (Eqp.refl p PZ.X)))).trans (Eqp.symm ((a3.add (Eqp.refl p PZ.X)).mul (a4.add (Eqp.refl p PZ.X)) |>.trans ?_))
  obtain ⟨k, hk⟩ : p ∣ v * v - u := Int.dvd_of_emod_eq_zero (Int.emod_eq_emod_iff_emod_sub_eq_zero.mp hv)
  have hu : u = v * v - p * k := by omega
  refine ⟨((-k : Int) : PZ), ?_⟩
  rw [hu]
  have e1 : ((v - e : Int) : PZ) = (v : PZ) - (e : PZ) := by grind
  have e2 : ((-v - e : Int) : PZ) = -(v : PZ) - (e : PZ) := by grind
  have e3 : ((e * e - (v * v - p * k) : Int) : PZ) = (e : PZ) * (e : PZ) - (v : PZ) * (v : PZ) + (p : PZ) * (k : PZ) := by grind
  have e4 : (((-2) * e : Int) : PZ) = -((e : PZ) + (e : PZ)) := by grind
  have e5 : ((-k : Int) : PZ) = -(k : PZ) := by grind
  rw [e1, e2, e3, e4, e5]
  grind
/-- and stays where it has none -/
theorem h_stays {p e u : Int} (hp : p ∈ primesL) (hu : 0 ≤ u ∧ u < p) (hn : ∀ v, 0 ≤ v → v < p → v * v % p ≠ u) : Pt p [(e * e - u) % p, (-2) * e % p, 1] := by
  obtain ⟨p1, p2⟩ := pr_bd hp
  have b1 := Int.emod_nonneg (e * e - u) (show p ≠ 0 by omega)
  have b2 := Int.emod_lt_of_pos (e * e - u) (show 0 < p by omega)
  have b3 := Int.emod_nonneg ((-2) * e) (show p ≠ 0 by omega)
  have b4 := Int.emod_lt_of_pos ((-2) * e) (show 0 < p by omega)
  have c1 := Cg.mod p (e * e - u)
  have c2 := Cg.mod p ((-2) * e)
  generalize (e * e - u) % p = x at *
  generalize (-2) * e % p = y at *
  have nr : NoRoot p [x, y, 1] := fun r hr => by
    have ev : ev [x, y, 1] r = x + r * y + r * r := by show x + r * (y + r * (1 + r * 0)) = _; grind
    rw [ev] at hr
    have h1 : Cg p ((e * e - u) + r * ((-2) * e) + r * r) 0 := ((c1.symm.add ((Cg.refl p r).mul c2.symm)).add (Cg.refl p (r * r))).trans hr
    have h2 : Cg p ((r - e) * (r - e)) u := by
      have := h1.add (Cg.refl p u)
      exact (Cg.of_eq (by grind)).trans (this.trans (Cg.of_eq (by omega)))
    have h3 : Cg p ((r - e) % p * ((r - e) % p)) u := ((Cg.mod p (r - e)).mul (Cg.mod p (r - e))).trans h2
    refine hn ((r - e) % p) (Int.emod_nonneg _ (by omega)) (Int.emod_lt_of_pos _ (by omega)) ?_
    have := Cg.iff.mp h3
    rw [Int.emod_eq_of_lt hu.1 hu.2] at this
    exact this
  exact ⟨⟨Red.of (by omega) fun z hz => by
    simp only [List.mem_cons, List.not_mem_nil, or_false] at hz
    rcases hz with rfl | rfl | rfl <;> omega, by simp, rfl⟩, by simp, irp_of hp (m := 2) (quad_mon x y) (by decide) (by decide) nr (fun z => absurd z (by decide))⟩
theorem two_pt : Pt 2 [1, 1, 1] := by
  have hp : (2 : Int) ∈ primesL := by decide
  refine ⟨⟨Red.of (by decide) (by decide), by simp, rfl⟩, by simp, irp_of hp (m := 2) (quad_mon 1 1) (by decide) (by decide) (fun r hr => ?_) (fun z => absurd z (by decide))⟩
  have ev : ev [1, 1, 1] r = 1 + r + r * r := by show 1 + r * (1 + r * (1 + r * 0)) = _; grind
  rw [ev] at hr
  have := Cg.iff.mp hr
  rcases show r % 2 = 0 ∨ r % 2 = 1 by omega with q | q
  · obtain ⟨m, hm⟩ : ∃ m, r = 2 * m := ⟨r / 2, by omega⟩
    rw [hm] at this
    have e : 2 * m * (2 * m) = 2 * (2 * m * m) := by grind
    omega
  · obtain ⟨m, hm⟩ : ∃ m, r = 2 * m + 1 := ⟨r / 2, by omega⟩
    rw [hm] at this
    have e : (2 * m + 1) * (2 * m + 1) = 2 * (2 * m * m + 2 * m) + 1 := by grind
    omega
/-- the law's quadratic -/
def hq (p e u : Int) : List Int := if p = 2 then [1, 1, 1] else [(e * e - u) % p, (-2) * e % p, 1]
theorem hq_mp {p e u : Int} (p1 : 1 < p) : Mp p (hq p e u) ∧ (hq p e u).length = 3 := by
  unfold hq
  by_cases c : p = 2
  · rw [if_pos c]
    exact ⟨⟨Red.of (by omega) fun z hz => by
      simp only [List.mem_cons, List.not_mem_nil, or_false] at hz
      rcases hz with rfl | rfl | rfl <;> omega, by simp, rfl⟩, rfl⟩
  · rw [if_neg c]
    have b1 := Int.emod_nonneg (e * e - u) (show p ≠ 0 by omega)
    have b2 := Int.emod_lt_of_pos (e * e - u) (show 0 < p by omega)
    have b3 := Int.emod_nonneg ((-2) * e) (show p ≠ 0 by omega)
    have b4 := Int.emod_lt_of_pos ((-2) * e) (show 0 < p by omega)
    exact ⟨⟨Red.of (by omega) fun z hz => by
      simp only [List.mem_cons, List.not_mem_nil, or_false] at hz
      rcases hz with rfl | rfl | rfl <;> omega, by simp, rfl⟩, rfl⟩
def facs (p r s e u : Int) (a b c : Nat) : List (List Int) := List.replicate a (lin (-r % p)) ++ List.replicate b (lin (-s % p)) ++ List.replicate c (hq p e u)
theorem fl2 (x y : Int) : ∀ c : Nat, prodF (((List.replicate c [x, y]).flatten).map lin) = (PZ.of (lin x) * PZ.of (lin y)) ^ c
  | 0 => rfl
  | c + 1 => by
    rw [List.replicate_succ, List.flatten_cons, List.map_append, prodF_app, fl2 x y c, Lean.Grind.Semiring.pow_succ]
    show (PZ.of (lin x) * (PZ.of (lin y) * 1)) * _ = _
    grind
theorem due_ok {p r s e u : Int} (hp : p ∈ primesL) (hu : 0 ≤ u ∧ u < p) (he : 0 ≤ e ∧ e < p) {a b c : Nat} (ha : a ≤ 4) (hb : b ≤ 4) (hc : c ≤ 2) :
    ∃ lows q, m__law_due p r s e u [(a : Int), (b : Int), (c : Int)] = ok (cnt lows ++ q) ∧ (∀ l ∈ lows, 0 ≤ l ∧ l < p) ∧ (q = [] ∨ ∃ x, q = [x] ∧ Pt p x.1 ∧ 1 ≤ x.2 ∧ x.1.length = 3) ∧ Eqp p (prodF (facs p r s e u a b c)) (prodP (cnt lows ++ q)) := by
  obtain ⟨p1, p2⟩ := pr_bd hp
  have nn : ∀ x : Int, 0 ≤ x % p ∧ x % p < p := fun x => ⟨Int.emod_nonneg _ (by omega), Int.emod_lt_of_pos _ (by omega)⟩
  have hfin : ∀ (lows : List Int) (q : List (List Int × Int)), lows.length < 64 → q.length ≤ 1 → (M.bind (M.bind (psortS lows) fun xs => mapC (fun low52 => (M.bind (pcount lows low52) fun u53 => ok ([low52, 1], u53))) xs) fun u54 => (pcat u54 q)) = ok (cnt lows ++ q) := fun lows q h1 h2 => by
    have hl : (upI lows).length ≤ 1000000 := by
      have nd : (upI lows).Nodup := upI_up.imp fun {a b} h => by omega
      have := nodup_len nd (m := lows) fun x hx => upI_mem.mp hx
      omega
    rw [show psortS lows = ok (upI lows) from grd_pos h1 _, bind_ok, mapC_ok (f := fun low52 : Int => (M.bind (pcount lows low52) fun u53 => ok (([low52, 1], u53) : List Int × Int))) (g := fun l : Int => ([l, 1], (lows.count l : Int))) (fun l _ => rfl) (by rw [sizeLineE]; omega), bind_ok, pcat_ok (by rw [List.length_map]; omega)]
    rfl
  have base : (M.bind (M.bind (M.bind (pmod (-r) p) fun u8 => psz [u8]) fun u9 => M.bind (pget [(a : Int), (b : Int), (c : Int)] 0) fun u10 => (prep u9 u10)) fun u14 => M.bind (M.bind (M.bind (pmod (-s) p) fun u11 => psz [u11]) fun u12 => M.bind (pget [(a : Int), (b : Int), (c : Int)] 1) fun u13 => (prep u12 u13)) fun u15 => (pcat u14 u15)) = ok (List.replicate a (-r % p) ++ List.replicate b (-s % p)) := by
    rw [pmod_pos (by omega), bind_ok, psz_ok (by simp), bind_ok, show pget [(a : Int), (b : Int), (c : Int)] 0 = ok (a : Int) from pget_some (i := 0) rfl, bind_ok, prep_ok (by omega), bind_ok, pmod_pos (by omega), bind_ok, psz_ok (by simp), bind_ok, show pget [(a : Int), (b : Int), (c : Int)] 1 = ok (b : Int) from pget_some (i := 1) rfl, bind_ok, prep_ok (by omega), bind_ok, pcat_ok (by simp; omega)]
  have hlo : ∀ l ∈ List.replicate a (-r % p) ++ List.replicate b (-s % p), 0 ≤ l ∧ l < p := fun l hl => by
    rcases List.mem_append.mp hl with z | z
    · rw [(List.mem_replicate.mp z).2]; exact nn _
    · rw [(List.mem_replicate.mp z).2]; exact nn _
  have hll : (List.replicate a (-r % p) ++ List.replicate b (-s % p)).length = a + b := by simp
  have hpf : prodF (facs p r s e u a b c) = prodF ((List.replicate a (-r % p) ++ List.replicate b (-s % p)).map lin) * PZ.of (hq p e u) ^ c := by
    unfold facs
    rw [prodF_app, prodF_rep (hq p e u) c, List.map_append, List.map_replicate, List.map_replicate]
  rw [hpf]
  unfold m__law_due
  rw [base, bind_ok, bind_ok, show pget [(a : Int), (b : Int), (c : Int)] 2 = ok (c : Int) from pget_some (i := 2) rfl]
  generalize List.replicate a (-r % p) ++ List.replicate b (-s % p) = lo at hlo hll ⊢
  simp only [bind_okS]
  by_cases c0 : c = 0
  · subst c0
    refine ⟨lo, [], ?_, hlo, .inl rfl, ?_⟩
    · rw [if_neg (by decide), bind_ok, if_neg (by decide), bind_ok, if_neg (by decide), bind_ok, if_neg (by decide), bind_ok]
      exact hfin lo [] (by omega) (by simp)
    · rw [prodP_app, cnt_prod, Lean.Grind.Semiring.pow_zero]
      exact .refl _ _
  have c1 : (0 : Int) < (c : Int) := by omega
  by_cases c2 : p = 2
  · subst c2
    refine ⟨lo, [([1, 1, 1], (c : Int))], ?_, hlo, .inr ⟨_, rfl, two_pt, by show 1 ≤ (c : Int); omega, rfl⟩, ?_⟩
    · rw [if_pos (by simpa using c1), bind_ok, if_pos (by decide), papp_ok (by simp), bind_ok, bind_ok, if_pos (by simpa using c1), bind_ok, if_neg (by decide), bind_ok]
      exact hfin lo _ (by omega) (by simp)
    · rw [prodP_app, cnt_prod]
      show Eqp 2 _ (_ * (PZ.of [1, 1, 1] ^ (c : Int).toNat * 1))
      rw [Int.toNat_natCast]
      unfold hq
      rw [if_pos rfl]
      exact ⟨0, by grind⟩
  · have p3 : 2 < p := by omega
    obtain ⟨n, hn⟩ := Int.eq_ofNat_of_zero_le (show 0 ≤ p by omega)
    have eside : (M.bind (prangeI p) fun xs => compL (fun v28 => (M.bind (M.bind (pmul v28 v28) fun u29 => (pmod u29 p)) fun u30 => ok (decide (u30 = u)))) (fun v28 => (ok v28)) xs) = ok ((rangeL 0 n).filter fun v : Int => decide (v * v % p = u)) := by
      rw [hn, pr_nat (by omega), ← hn, bind_ok, compL_ok (p := fun v : Int => decide (v * v % p = u)) (g := fun k => k) (fun k hk => by
        have := mem_rangeL hk
        rw [pmul_left (by rw [pow64]; omega), bind_ok, pmod_pos (by omega), bind_ok]) (fun _ _ _ => rfl) (by rw [sizeLineE, rangeL_len]; omega), List.map_id']
    have hside : ∀ v, v ∈ (rangeL 0 n).filter (fun v : Int => decide (v * v % p = u)) ↔ (0 ≤ v ∧ v < p) ∧ v * v % p = u := fun v => by
      rw [List.mem_filter, decide_eq_true_eq]
      exact ⟨fun z => by have := mem_rangeL z.1; exact ⟨by omega, z.2⟩, fun z => ⟨mem_range_of z.1.1 (by omega), z.2⟩⟩
    have hee := natAbs_mul_le (show e.natAbs ≤ 200 by omega) (show e.natAbs ≤ 200 by omega)
    have eh : hq p e u = [(e * e - u) % p, (-2) * e % p, 1] := by unfold hq; rw [if_neg c2]
    rw [if_pos (by simpa using c1), bind_ok, if_neg (by simpa using c2), bind_ok, if_pos (by simpa using c1), bind_ok, if_pos (by simpa using p3), eside, bind_ok]
    generalize (rangeL 0 n).filter (fun v : Int => decide (v * v % p = u)) = sides at hside ⊢
    cases sides with
    | nil =>
      have pp : ∀ x : Int, pmod x p = ok (x % p) := fun x => pmod_pos (by omega)
      have ps : ∀ x y : Int, psz [x, y, 1] = ok [x, y, 1] := fun x y => psz_ok (by simp)
      have pa : ∀ x : List Int × Int, papp ([] : List (List Int × Int)) x = ok [x] := fun x => papp_ok (by simp)
      rw [if_pos (by simp)]
      simp only [pmul_left (x := e) (y := e) (by rw [pow64]; omega), bind_okS, pp, ps, pa]
      have hpt : Pt p [(e * e - u) % p, (-2) * e % p, 1] := h_stays hp hu fun v v0 v1 z => nomatch (hside v).mpr ⟨⟨v0, v1⟩, z⟩
      refine ⟨lo, [([(e * e - u) % p, (-2) * e % p, 1], (c : Int))], hfin lo _ (by omega) (by simp), hlo, .inr ⟨_, rfl, hpt, by show 1 ≤ (c : Int); omega, rfl⟩, ?_⟩
      rw [prodP_app, cnt_prod, eh]
      show Eqp p _ (_ * (PZ.of _ ^ (c : Int).toNat * 1))
      rw [Int.toNat_natCast]
      exact ⟨0, by grind⟩
    | cons v vs =>
      obtain ⟨⟨v0, v1⟩, hv⟩ := (hside v).mp List.mem_cons_self
      have pp : ∀ x : Int, pmod x p = ok (x % p) := fun x => pmod_pos (by omega)
      have ps : ∀ x y : Int, psz [x, y] = ok [x, y] := fun x y => psz_ok (by simp)
      rw [if_neg (by simp; omega), show pget (v :: vs) 0 = ok v from pget_some (i := 0) rfl]
      simp only [bind_okS, pp, ps]
      have ep : prep [(v - e) % p, (-v - e) % p] (c : Int) = ok (List.replicate c [(v - e) % p, (-v - e) % p]).flatten := grd_pos (by simp; rw [sizeLineE]; omega) _
      have lfl : (List.replicate c [(v - e) % p, (-v - e) % p]).flatten.length = 2 * c := by
        rw [List.length_flatten, List.map_replicate, List.sum_replicate_nat]
        simp
        omega
      rw [ep, bind_ok, pcat_ok (by omega), bind_ok, bind_ok]
      refine ⟨lo ++ (List.replicate c [(v - e) % p, (-v - e) % p]).flatten, [], hfin _ _ (by rw [List.length_append, lfl]; omega) (by simp), fun l hl => ?_, .inl rfl, ?_⟩
      · rcases List.mem_append.mp hl with z | z
        · exact hlo l z
        · obtain ⟨t, ht, hlt⟩ := List.mem_flatten.mp z
          rw [(List.mem_replicate.mp ht).2] at hlt
          simp only [List.mem_cons, List.not_mem_nil, or_false] at hlt
          rcases hlt with rfl | rfl <;> exact nn _
      · rw [prodP_app, cnt_prod, List.map_append, prodF_app, fl2, eh]
        show Eqp p _ (_ * 1)
        have := (Eqp.refl p (prodF (lo.map lin))).mul ((h_falls (e := e) (v := v) (u := u) (p := p) (by rw [hv, Int.emod_eq_of_lt hu.1 hu.2])).pow c)
        rwa [show prodF (lo.map lin) * (PZ.of (lin ((v - e) % p)) * PZ.of (lin ((-v - e) % p))) ^ c = prodF (lo.map lin) * (PZ.of (lin ((v - e) % p)) * PZ.of (lin ((-v - e) % p))) ^ c * 1 by grind] at this
theorem cut_last {xs : List Int} (h : 0 < xs.length) : cutL xs none (some (-1)) = xs.take (xs.length - 1) := by
  unfold cutL
  rw [HT.sIx_none]
  show (xs.drop 0).take _ = _
  rw [List.drop_zero]
  congr 1
  unfold HT.sIx
  simp
  omega
/-! ### no small prime -/
theorem not_pr {q : Int} (h : q < 2 ∨ 200 ≤ q ∨ q = 4) : q ∉ primesL := fun z => by
  have := pr_bd z
  rcases h with h | h | h
  · omega
  · omega
  · rw [h] at z; exact absurd z (by decide)
theorem split_no {f : List Int} {q : Int} (h : q ∉ primesL) : m_split_by f q = exc ⟨"NoPrime", []⟩ := by
  unfold m_split_by
  rw [show c_PRIMES = primesL from rfl, decide_eq_false h]
  rfl
theorem refused_ok {f : List Int} {q : Int} (h : q ∉ primesL) : m__law_refused f q = ok true := by
  unfold m__law_refused m_stays
  rw [split_no h, bind_ok]
  show M.bind (tryH _ (exc ⟨"NoPrime", []⟩)) _ = _
  have e1 : tryH [(tbl_RingError, fun e5 : Ex => (M.bind (M.bind (M.bind (M.bind (exIsF tis_NoPrime e5) fun z9 => if z9 = true then (M.bind (exIsF tis_ValueError e5) fun z8 => if z8 = true then (M.bind (exIsF tis_NotTwo e5) fun u7 => ok (!u7)) else ok false) else ok false) fun u10 => ok (b2n u10)) fun u11 => ok ((0 : Int) + u11)) fun marks6 => ok (marks6)))] (exc ⟨"NoPrime", []⟩) = ok (1 : Int) := by
    rw [tryH_exc, goH_hit (a := (1 : Int)) (show tbl_RingError.lookup ("NoPrime" : Str) = some true by decide +kernel) rfl]
  rw [e1, bind_ok]
  rfl
theorem ways_ok (i : Int) (h0 : 0 ≤ i) (h1 : i < 14) : ∃ a b c : Nat, pget ([[1, 0, 0], [2, 0, 0], [3, 0, 0], [4, 0, 0], [1, 1, 0], [2, 1, 0], [1, 2, 0], [2, 2, 0], [3, 1, 0], [1, 0, 1], [2, 0, 1], [1, 1, 1], [0, 0, 1], [0, 0, 2]] : List (List Int)) i = ok [(a : Int), (b : Int), (c : Int)] ∧ a ≤ 4 ∧ b ≤ 4 ∧ c ≤ 2 ∧ 1 ≤ a + b + 2 * c ∧ a + b + 2 * c ≤ 4 := by
  rcases show i = 0 ∨ i = 1 ∨ i = 2 ∨ i = 3 ∨ i = 4 ∨ i = 5 ∨ i = 6 ∨ i = 7 ∨ i = 8 ∨ i = 9 ∨ i = 10 ∨ i = 11 ∨ i = 12 ∨ i = 13 by omega with q | q | q | q | q | q | q | q | q | q | q | q | q | q <;> rw [q]
  · exact ⟨1, 0, 0, rfl, by decide⟩
  · exact ⟨2, 0, 0, rfl, by decide⟩
  · exact ⟨3, 0, 0, rfl, by decide⟩
  · exact ⟨4, 0, 0, rfl, by decide⟩
  · exact ⟨1, 1, 0, rfl, by decide⟩
  · exact ⟨2, 1, 0, rfl, by decide⟩
  · exact ⟨1, 2, 0, rfl, by decide⟩
  · exact ⟨2, 2, 0, rfl, by decide⟩
  · exact ⟨3, 1, 0, rfl, by decide⟩
  · exact ⟨1, 0, 1, rfl, by decide⟩
  · exact ⟨2, 0, 1, rfl, by decide⟩
  · exact ⟨1, 1, 1, rfl, by decide⟩
  · exact ⟨0, 0, 1, rfl, by decide⟩
  · exact ⟨0, 0, 2, rfl, by decide⟩
theorem law_true (ns : List Int) (hl : ns.length ≤ 63) : m_law ns = ok true := by
  obtain ⟨c0, ec0⟩ := cell_ok hl (k := 0) (by decide)
  obtain ⟨c1, ec1⟩ := cell_ok hl (k := 1) (by decide)
  obtain ⟨c2, ec2⟩ := cell_ok hl (k := 2) (by decide)
  obtain ⟨c3, ec3⟩ := cell_ok hl (k := 3) (by decide)
  obtain ⟨c4, ec4⟩ := cell_ok hl (k := 4) (by decide)
  obtain ⟨p, ep, h⟩ := prime_ok c0 (prime := 999999937) (by decide)
  obtain ⟨p1, p2⟩ := pr_bd h
  obtain ⟨ds, eds, dds⟩ := draws_ok c1 (ws := [14, 3, 6]) (prime := 999999929) Widths.of (by decide)
  obtain ⟨w0, g0, a0, b0⟩ := dds.at (i := 0) rfl
  obtain ⟨w1, g1, a1, b1⟩ := dds.at (i := 1) rfl
  obtain ⟨w2, g2, a2, b2⟩ := dds.at (i := 2) rfl
  replace g0 : pget ds 0 = ok w0 := pget_some (i := 0) g0
  replace g1 : pget ds 1 = ok w1 := pget_some (i := 1) g1
  replace g2 : pget ds 2 = ok w2 := pget_some (i := 2) g2
  obtain ⟨a, b, c, ew, ha, hb, hc, hd1, hd4⟩ := ways_ok w0 a0 b0
  obtain ⟨row4, er4, lr4, rr4⟩ := mod_places_ok c2 (n := 4) (p := p) (prime := 999999893) (by decide) (by omega) (by omega) (by decide)
  obtain ⟨r, s, e, u, rfl⟩ := len4 lr4
  replace er4 : m_mod_places c2 4 p 999999893 = ok [r, s, e, u] := er4
  have hr : 0 ≤ r ∧ r < p := rr4 0
  have hs : 0 ≤ s ∧ s < p := rr4 1
  have he : 0 ≤ e ∧ e < p := rr4 2
  have hu : 0 ≤ u ∧ u < p := rr4 3
  have hee := natAbs_mul_le (show e.natAbs ≤ 200 by omega) (show e.natAbs ≤ 200 by omega)
  -- the product
  have hfm : ∀ g ∈ facs p r s e u a b c, Mp p g ∧ g.length ≤ 3 := fun g hg => by
    unfold facs at hg
    have lm : ∀ x : Int, Mp p (lin (x % p)) ∧ (lin (x % p)).length ≤ 3 := fun x => ⟨(pt_lin (Int.emod_nonneg x (by omega)) (Int.emod_lt_of_pos x (by omega)) p1).mp, by show 2 ≤ 3; decide⟩
    rcases List.mem_append.mp hg with z | z
    · rcases List.mem_append.mp z with z | z
      · rw [(List.mem_replicate.mp z).2]; exact lm _
      · rw [(List.mem_replicate.mp z).2]; exact lm _
    · rw [(List.mem_replicate.mp z).2]
      obtain ⟨q1, q2⟩ := hq_mp (e := e) (u := u) p1
      exact ⟨q1, by omega⟩
  have lf : (facs p r s e u a b c).length = a + b + c := by unfold facs; simp; omega
  have sf : ((facs p r s e u a b c).map List.length).sum = 2 * a + 2 * b + 3 * c := by
    unfold facs
    rw [List.map_append, List.map_append, List.map_replicate, List.map_replicate, List.map_replicate, List.sum_append, List.sum_append, List.sum_replicate_nat, List.sum_replicate_nat, List.sum_replicate_nat, (hq_mp (e := e) (u := u) p1).2]
    show a * 2 + b * 2 + c * 3 = _
    omega
  obtain ⟨raw, eraw, mraw, lraw, praw⟩ := fac_loop h (facs p r s e u a b c) [1] 1 hfm ⟨Red.of (by omega) fun x hx => by rw [List.mem_singleton.mp hx]; omega, by simp, rfl⟩ (by simp) (by omega)
  rw [lf, sf] at lraw
  obtain ⟨d, hd⟩ : ∃ d, d = a + b + 2 * c := ⟨_, rfl⟩
  have lraw : raw.length = d + 1 := by simp at lraw; omega
  have lt : (raw.take d).length = d := by rw [List.length_take]; omega
  obtain ⟨row, erow, lrow, crow⟩ := written_ok (f := raw.take d) (p := p) c3 (prime := 999999883) (by omega) (by omega) (by omega) (by decide)
  have lfp : (row ++ [1]).length = d + 1 := by rw [List.length_append, lrow, lt]; rfl
  have hraw : raw = raw.take d ++ [1] := by
    have hlast := mraw.last
    rw [lraw, Nat.add_sub_cancel] at hlast
    refine co_ext (by rw [List.length_append, lt]; exact lraw) fun t => ?_
    by_cases h1 : t < d
    · rw [co_append_l (by omega), co_take, if_pos h1]
    · rw [co_append_r (by omega), lt]
      by_cases h2 : t = d
      · rw [h2, Nat.sub_self, hlast]; rfl
      · rw [co_out (by omega), co_out (by simp; omega)]
  have f1 : co (row ++ [1]) d = 1 := by rw [co_append_r (by omega), lrow, lt, Nat.sub_self]; rfl
  have cf : CgP p (row ++ [1]) raw := fun t => by
    rw [hraw]
    by_cases h1 : t < d
    · rw [co_append_l (by omega), co_append_l (by omega)]; exact crow t
    · rw [co_append_r (by omega), co_append_r (by omega), lrow]; exact .refl _ _
  obtain ⟨parts, es, hsp⟩ := split_by_ok h lfp f1 (by omega) (by omega)
  obtain ⟨parts', es', hl3, _⟩ := split_by_tot (f := row ++ [1]) h (by omega)
  rw [es] at es'
  cases es'
  obtain ⟨lows, q, edue, hlows, hq3, hqm⟩ := due_ok (r := r) (s := s) h hu he ha hb hc
  have hpol : Eqp p (PZ.of (row ++ [1])) (prodP (cnt lows ++ q)) := by
    refine (Eqp.cg.mpr cf).trans (praw.trans ?_)
    have e1 : PZ.of [1] * prodF (facs p r s e u a b c) = prodF (facs p r s e u a b c) := by rw [PZ.of_one]; grind
    rw [e1]
    exact hqm
  have hpd := split_eq h hsp hlows hq3 hpol
  have hfacs : (M.bind (M.bind (M.bind (M.bind (M.bind (pmod (-r) p) fun u22 => psz [u22, 1]) fun u23 => psz [u23]) fun u24 => M.bind (pget [(a : Int), (b : Int), (c : Int)] 0) fun u25 => (prep u24 u25)) fun u30 => M.bind (M.bind (M.bind (M.bind (pmod (-s) p) fun u26 => psz [u26, 1]) fun u27 => psz [u27]) fun u28 => M.bind (pget [(a : Int), (b : Int), (c : Int)] 1) fun u29 => (prep u28 u29)) fun u31 => (pcat u30 u31)) fun u33 => M.bind (M.bind (pget [(a : Int), (b : Int), (c : Int)] 2) fun u32 => (prep [hq p e u] u32)) fun u34 => (pcat u33 u34)) = ok (facs p r s e u a b c) := by
    have ps : ∀ x y : Int, psz [x, y] = ok [x, y] := fun x y => psz_ok (by simp)
    have ps1 : ∀ x : List Int, psz [x] = ok [x] := fun x => psz_ok (by simp)
    rw [show pget [(a : Int), (b : Int), (c : Int)] 0 = ok (a : Int) from pget_some (i := 0) rfl, show pget [(a : Int), (b : Int), (c : Int)] 1 = ok (b : Int) from pget_some (i := 1) rfl, show pget [(a : Int), (b : Int), (c : Int)] 2 = ok (c : Int) from pget_some (i := 2) rfl]
    rw [pmod_pos (by omega), bind_ok, ps, bind_ok, ps1, bind_ok, bind_ok, prep_ok (by omega), bind_ok, pmod_pos (by omega), bind_ok, ps, bind_ok, ps1, bind_ok, bind_ok, prep_ok (by omega), bind_ok, pcat_ok (by simp; omega), bind_ok, bind_ok, prep_ok (by omega), bind_ok, pcat_ok (by simp; omega)]
    rfl
  have hh : (M.bind (M.bind (M.bind (M.bind (pmul e e) fun u14 => ok (u14 - u)) fun u15 => (pmod u15 p)) fun u16 => M.bind (pmod ((-2) * e) p) fun u17 => psz [u16, u17, 1]) fun h13 => (M.bind (ok (decide (p = 2))) fun z18 => if z18 = true then (M.bind (ok [1, 1, 1]) fun h19 => ok (h19)) else ok (h13))) = ok (hq p e u) := by
    rw [pmul_left (by rw [pow64]; omega), bind_ok, bind_ok, pmod_pos (by omega), bind_ok, pmod_pos (by omega), bind_ok, psz_ok (by simp), bind_ok, bind_ok]
    unfold hq
    by_cases c2 : p = 2
    · rw [if_pos (by simpa using c2), if_pos c2]; rfl
    · rw [if_neg (by simpa using c2), if_neg c2]
  have lraw' : raw.length - 1 = d := by omega
  have pre : ∀ k : List Int → M Bool, (M.bind (M.bind (M.bind (M.bind (pmul e e) fun u14 => ok (u14 - u)) fun u15 => (pmod u15 p)) fun u16 => M.bind (pmod ((-2) * e) p) fun u17 => psz [u16, u17, 1]) fun h13 => (M.bind (M.bind (ok (decide (p = 2))) fun z18 => if z18 = true then (M.bind (ok [1, 1, 1]) fun h19 => ok (h19)) else ok (h13)) fun h20 => k h20)) = k (hq p e u) := fun k => by
    have := congrArg (fun m : M (List Int) => M.bind m k) hh
    simp only [bind_bind] at this ⊢
    exact this
  unfold m_law
  rw [e_cell, e_draws, e_split, e_written, e_prime, e_places, e_times, e_far, ec0, bind_ok, ep, bind_ok, bind_ok, show pcat ([[1, 0, 0], [2, 0, 0], [3, 0, 0], [4, 0, 0], [1, 1, 0], [2, 1, 0], [1, 2, 0], [2, 2, 0], [3, 1, 0]] : List (List Int)) [[1, 0, 1], [2, 0, 1], [1, 1, 1], [0, 0, 1], [0, 0, 2]] = ok [[1, 0, 0], [2, 0, 0], [3, 0, 0], [4, 0, 0], [1, 1, 0], [2, 1, 0], [1, 2, 0], [2, 2, 0], [3, 1, 0], [1, 0, 1], [2, 0, 1], [1, 1, 1], [0, 0, 1], [0, 0, 2]] from pcat_ok (by simp), bind_ok, ec1, bind_ok, eds, bind_ok, g0, bind_ok, ew, bind_ok, ec2, bind_ok, er4, bind_ok, show asRec4 [r, s, e, u] = ok (r, s, e, u) from rfl, bind_ok]
  dsimp only
  rw [pre, bind_ok, hfacs, bind_ok, eraw, bind_ok, ec3, bind_ok, cut_last (by omega), lraw', erow, bind_ok, pcat_ok (by simp; omega), bind_ok, g1, bind_ok, bind_ok]
  by_cases c2 : w1 = 2
  · rw [if_pos (by simpa using c2), ec4, bind_ok]
    obtain ⟨v, ev, _⟩ := far_ok c4 (parts := 3) (most := 1000000000000000000000000) (prime := 999999797) (by decide) (by decide) (by decide)
    replace ev : m_far c4 3 1000000000000000000000000 999999797 = ok v := ev
    rw [ev, bind_ok, g2, bind_ok]
    have hbad : ∃ x, pget [1, 4, 201, 211, (-(Int.natAbs v : Int)), (200 + ((Int.natAbs v : Int) * 2))] w2 = ok x ∧ x ∉ primesL := by
      rcases show w2 = 0 ∨ w2 = 1 ∨ w2 = 2 ∨ w2 = 3 ∨ w2 = 4 ∨ w2 = 5 by omega with q | q | q | q | q | q <;> rw [q]
      · exact ⟨_, rfl, not_pr (.inl (by decide))⟩
      · exact ⟨_, rfl, not_pr (.inr (.inr rfl))⟩
      · exact ⟨_, rfl, not_pr (.inr (.inl (by decide)))⟩
      · exact ⟨_, rfl, not_pr (.inr (.inl (by decide)))⟩
      · exact ⟨_, rfl, not_pr (.inl (by omega))⟩
      · exact ⟨_, rfl, not_pr (.inr (.inl (by omega)))⟩
    obtain ⟨x, ex, hx⟩ := hbad
    rw [ex, bind_ok, refused_ok hx]
  rw [if_neg (by simpa using c2), edue, bind_ok, es, bind_ok, bind_ok, if_neg (by decide)]
  have all_true : ∀ {α : Type} (xs : List α), List.all (xs.map fun _ => true) id = true := fun xs => by
    rw [List.all_eq_true]
    intro y hy
    obtain ⟨_, _, rfl⟩ := List.mem_map.mp hy
    rfl
  rw [mapC_ok (f := fun row50 : List Int × Int => (M.bind (ok true) fun z51 => if z51 = true then (ok (decide (2 = 2))) else ok false)) (g := fun _ => true) (fun _ _ => rfl) (by rw [sizeLineE]; omega), bind_ok, all_true, bind_ok, bind_ok, if_neg (by decide), mapC_ok (g := fun _ => true) (fun x hx => by
    obtain ⟨px, _⟩ := hsp.pts x hx
    rw [e_is_mod, is_mod_ok px.mp.cut px.mp.red (by have := px.le; omega), bind_ok, if_pos rfl]; rfl) (by rw [sizeLineE]; omega), bind_ok, all_true, bind_ok, bind_ok, if_neg (by decide)]
  unfold m_stays
  rw [e_split, es, bind_ok, ← hpd]
  have hst : ∃ z, (M.bind (ok (decide ((List.length parts : Int) = 1))) fun z6 => if z6 = true then (M.bind (M.bind (pget parts 0) fun u4 => ok u4.2) fun u5 => ok (decide (u5 = 1))) else ok false) = ok z := by
    rw [bind_ok]
    by_cases h1 : (parts.length : Int) = 1
    · rw [decide_eq_true h1, if_pos rfl, show pget parts 0 = ok parts[0] from pget_nat (i := 0) (by omega), bind_ok, bind_ok]
      exact ⟨_, rfl⟩
    · rw [decide_eq_false h1, if_neg (by decide)]; exact ⟨_, rfl⟩
  obtain ⟨z, ez⟩ := hst
  rw [ez, bind_ok, bind_ok, if_pos (by simp), bind_ok, if_pos rfl, bind_ok, decide_eq_true rfl]
end K09Law
namespace K09Law
open PySem PySem.Spec PyProof.Rows L2 T
theorem law_mk {l : PySem.W.OpenLaw} {w : World} {K : Fr} {mg : Str → Option Value} {fa : Addr} (T : Facts K mg) (hfa : mg "law" = some (.ref fa)) (hm : ∀ ns : List Int, ns.length ≤ 63 → m_law ns = ok true) :
    ∃ fd : FuncData, (∀ (s : Shared) (u : Value), BindsTo s fd ⟨[u], []⟩ [("_law_script", u)]) ∧ ∀ base : Heap, K.In base → base.Ns mainGlobals mg → FnOk l.prog w K mg base (L2.CX l.prog w) 7 fa fd ["_law_script"] (spLaw K) :=
  law_fd T.d_law hfa (fun _ _ _ _ _ _ s v => .of_eq rfl) hm fun base f fd F => ok_law T F
end K09Law
theorem PySem.Challenge.cw_ringhouse_k09_split_known_holds : PySem.Challenge.rw_ringhouse_k09_split_known.Holds :=
  K09Law.end_of fun T hfa => K09Law.law_mk T hfa K09Law.law_true