import PyProof.Rows.All
import Wide.All
import OpenK.AllK
import Wide.FinOn
import HandS.ForMost
import HandS.ForExc
import HandS.Wide
import HandS.IsInst
import KE.Datum
import HandS.TupAny
import HandS.TupMul
import HandS.Style
import HandS.Zip
import HandS.Rev
import HandS.RevTup
import PyProof.TableCode
import HandS.ExcInit
import HandS.ExcField
import HandS.ExcIs
import HandS.TryOnly
import HandS.TryMany
import HandS.TupSets
import HandS.Conv
import HandS.TupLe
import HandS.FltList
import KE.DataCmp
import KE.GoesEnum
import PyProof.PureInt
import HandS.More
import PyProof.LongRange
import KE.SortData
import PyProof.MinMaxWalk
import HandS.Text
import HandS.Deep
import HandS.SetFor
import HandS.Codes
import KE.IntTextLaws
import PySem.Challenge.RW_ringhouse_k86_written
set_option Elab.async false
set_option linter.all false
set_option maxRecDepth 100000
set_option maxHeartbeats 4000000
namespace T
open PySem PySem.Spec PyProof.Rows L2
/-! ### the monad of mirrors -/
inductive XF where
  | int (i : Int) | row (l : List Int) | str (s : Str)
structure Ex where
  cls : Str
  fs : List (Str × XF)
inductive Rs (α : Type) where
  | ok (a : α) | ex (e : Ex)
def M (α : Type) : Type := Option (Rs α)
def ok {α : Type} (a : α) : M α := some (.ok a)
def exc {α : Type} (e : Ex) : M α := some (.ex e)
def stuck {α : Type} : M α := none
def M.bind {α β : Type} (m : M α) (f : α → M β) : M β := match m with
  | none => none
  | some (.ok a) => f a
  | some (.ex e) => some (.ex e)
theorem bind_ok {α β : Type} (a : α) (f : α → M β) : (ok a).bind f = f a := rfl
theorem bind_okS {α β : Type} (a : α) (f : α → M β) : (ok a).bind f = f a := Eq.trans rfl rfl
theorem bind_exc {α β : Type} (e : Ex) (f : α → M β) : (exc e).bind f = exc e := rfl
theorem bind_bind {α β γ : Type} (m : M α) (f : α → M β) (g : β → M γ) : (m.bind f).bind g = m.bind fun a => (f a).bind g := by
  cases m with
  | none => rfl
  | some r => cases r <;> rfl
theorem bind_ret {α : Type} (m : M α) : m.bind ok = m := by
  cases m with
  | none => rfl
  | some r => cases r <;> rfl
/-- a guard -/
@[irreducible] def grd {α : Type} (c : Prop) [Decidable c] (m : M α) : M α := if c then m else none
theorem grd_pos {α : Type} {c : Prop} [Decidable c] (h : c) (m : M α) : grd c m = m := by unfold grd; exact if_pos h
theorem grd_neg {α : Type} {c : Prop} [Decidable c] (h : ¬ c) (m : M α) : grd c m = none := by unfold grd; exact if_neg h
/-! ### heaps -/
abbrev Fr := PySem.W.Frag
abbrev Le (H H' : Hp) : Prop := Same H H'
/-- the heap H and its data part D grow -/
structure Ext (H D H' D' : Hp) : Prop where
  h : Le H H'
  d : Le D D'
  dh : Le D' H'
  out : ∀ p, D p = none → H p ≠ none → D' p = none
theorem Ext.refl {H D : Hp} (h : Le D H) : Ext H D H D := ⟨Same.refl _, Same.refl _, h, fun _ e _ => e⟩
theorem Le.ne {H H' : Hp} (e : Le H H') {p : Addr} (h : H p ≠ none) : H' p ≠ none := fun z => h (e.free z)
theorem Le.eq {H H' : Hp} (e : Le H H') {p : Addr} (h : H p ≠ none) : H' p = H p := by
  cases q : H p with
  | none => exact absurd q h
  | some o => exact e p o q
theorem Ext.trans {H D H1 D1 H2 D2 : Hp} (a : Ext H D H1 D1) (b : Ext H1 D1 H2 D2) : Ext H D H2 D2 :=
  ⟨a.h.trans b.h, a.d.trans b.d, b.dh, fun p h1 h2 => b.out p (a.out p h1 h2) (a.h.ne h2)⟩
/-- a new object, laid into the data -/
theorem Ext.laid {H D : Hp} {p : Addr} {o : HO} (h : Le D H) (n : H p = none) : Ext H D (upd H p o) (upd D p o) := by
  have nd : D p = none := h.free n
  refine ⟨fun b x e => ?_, fun b x e => ?_, fun b x e => ?_, fun b h1 h2 => ?_⟩
  · rw [upd_ne (ne_of_none e n)]; exact e
  · rw [upd_ne (ne_of_none e nd)]; exact e
  · by_cases z : b = p
    · subst z; rw [upd_same] at e ⊢; exact e
    · rw [upd_ne z] at e ⊢; exact h b x e
  · by_cases z : b = p
    · subst z; exact absurd n h2
    · rw [upd_ne z]; exact h1
/-- a new object, not in the data -/
theorem Ext.fresh {H D : Hp} {p : Addr} {o : HO} (h : Le D H) (n : H p = none) : Ext H D (upd H p o) D := by
  refine ⟨fun b x e => ?_, Same.refl _, fun b x e => ?_, fun b h1 _ => h1⟩
  · rw [upd_ne (ne_of_none e n)]; exact e
  · rw [upd_ne (ne_of_none (h b x e) n)]; exact h b x e
theorem SqT.mono {K : Fr} {H H' : Hp} {a : Addr} {xs : List V} (e : Le H H') (h : SqT K H a xs) : SqT K H' a xs := by
  rcases h with (h | ⟨o, h⟩) | h
  · exact .inl (.inl (e _ _ h))
  · exact .inl (.inr ⟨o, e _ _ h⟩)
  · exact .inr h
/-! ### types of data -/
structure Dt (α : Type) where
  rep : Fr → Hp → α → V → Prop
  mono : ∀ {K : Fr} {H H' : Hp} {a : α} {v : V}, Le H H' → rep K H a v → rep K H' a v
theorem Dt.monos {α : Type} (A : Dt α) {K : Fr} {H H' : Hp} (e : Le H H') : ∀ {xs : List α} {vs : List V}, Paired (A.rep K H) xs vs → Paired (A.rep K H') xs vs
  | _, _, .nil => .nil
  | _, _, .cons r t => .cons (A.mono e r) (Dt.monos A e t)
def tInt : Dt Int := ⟨fun _ _ i v => v = .int i, fun _ h => h⟩
def tBool : Dt Bool := ⟨fun _ _ i v => v = .bl i, fun _ h => h⟩
def tStr : Dt Str := ⟨fun _ _ i v => v = .str i, fun _ h => h⟩
/-- a tuple of any length -/
def tRow {α : Type} (A : Dt α) : Dt (List α) := ⟨fun K H xs v => ∃ p vs, v = .ref p ∧ SqT K H p vs ∧ Paired (A.rep K H) xs vs,
  fun e ⟨p, vs, h1, h2, h3⟩ => ⟨p, vs, h1, SqT.mono e h2, A.monos e h3⟩⟩
/-- a list that nobody changes -/
def tLst {α : Type} (A : Dt α) : Dt (List α) := ⟨fun K H xs v => ∃ p vs, v = .ref p ∧ H p = some (.lst vs) ∧ Paired (A.rep K H) xs vs,
  fun e ⟨p, vs, h1, h2, h3⟩ => ⟨p, vs, h1, e _ _ h2, A.monos e h3⟩⟩
/-- the script -/
def tScr : Dt (List Int) := ⟨fun K H xs v => ∃ p, v = .ref p ∧ SqL K H p (xs.map V.int), fun e ⟨p, h1, h2⟩ => ⟨p, h1, Same.seq e h2⟩⟩
def tRec2 {α β : Type} (A : Dt α) (B : Dt β) : Dt (α × β) := ⟨fun K H x v => ∃ p v1 v2, v = .ref p ∧ SqT K H p [v1, v2] ∧ A.rep K H x.1 v1 ∧ B.rep K H x.2 v2,
  fun e ⟨p, v1, v2, h1, h2, h3, h4⟩ => ⟨p, v1, v2, h1, SqT.mono e h2, A.mono e h3, B.mono e h4⟩⟩
/-! ### what a name may hold -/
structure Rp (α : Type) where
  rep : Fr → Hp → Hp → List Addr → α → V → Prop
  mono : ∀ {K : Fr} {H H' D D' : Hp} {fp : List Addr} {a : α} {v : V}, Le H H' → Le D D' → rep K H D fp a v → rep K H' D' fp a v
def Stable {α : Type} (R : Rp α) : Prop := ∀ (K : Fr) (H H' D D' : Hp) (fp : List Addr) (a : α) (v : V), (∀ p ∈ fp, H' p = H p) → Le D D' → R.rep K H D fp a v → R.rep K H' D' fp a v
def dat {α : Type} (A : Dt α) : Rp α := ⟨fun K _ D fp a v => fp = [] ∧ A.rep K D a v, fun _ e h => ⟨h.1, A.mono e h.2⟩⟩
theorem dat_st {α : Type} (A : Dt α) : Stable (dat A) := fun _ _ _ _ _ _ _ _ _ e h => ⟨h.1, A.mono e h.2⟩
/-- a list of one's own -/
def own {α : Type} (A : Dt α) : Rp (List α) := ⟨fun K H D fp xs v => ∃ p vs, v = .ref p ∧ fp = [p] ∧ H p = some (.lst vs) ∧ Paired (A.rep K D) xs vs,
  fun e d ⟨p, vs, h1, h2, h3, h4⟩ => ⟨p, vs, h1, h2, e _ _ h3, A.monos d h4⟩⟩
theorem own_st {α : Type} (A : Dt α) : Stable (own A) := fun K H H' D D' fp a v k d ⟨p, vs, h1, h2, h3, h4⟩ =>
  ⟨p, vs, h1, h2, by rw [k p (by rw [h2]; exact List.mem_cons_self)]; exact h3, A.monos d h4⟩
/-- a list that may be read now -/
def bor {α : Type} (A : Dt α) : Rp (List α) := ⟨fun K H D fp xs v => fp = [] ∧ ∃ p vs, v = .ref p ∧ SqL K H p vs ∧ Paired (A.rep K D) xs vs,
  fun e d ⟨h0, p, vs, h1, h3, h4⟩ => ⟨h0, p, vs, h1, Same.seq e h3, A.monos d h4⟩⟩
/-! ### views -/
structure Ent where
  slot : Nat
  α : Type
  R : Rp α
  st : Stable R
  val : α
abbrev Vw := List Ent
abbrev eD {α : Type} (i : Nat) (A : Dt α) (a : α) : Ent := ⟨i, α, dat A, dat_st A, a⟩
abbrev eO {α : Type} (i : Nat) (A : Dt α) (a : List α) : Ent := ⟨i, List α, own A, own_st A, a⟩
def find (i : Nat) : Vw → Option Ent
  | [] => none
  | e :: V => bif Nat.beq e.slot i then some e else find i V
def rmv (i : Nat) : Vw → Vw
  | [] => []
  | e :: V => bif Nat.beq e.slot i then rmv i V else e :: rmv i V
def put (e : Ent) (V : Vw) : Vw := e :: rmv e.slot V
def pick : List Nat → Vw → Vw
  | [], _ => []
  | i :: is, V => match find i V with
    | some e => e :: pick is (rmv i V)
    | none => []
def Hold (K : Fr) (H D : Hp) (σ : L2.St) : Vw → List Addr → Prop
  | [], os => os = []
  | e :: V, os => ∃ fp os', os = fp ++ os' ∧ (∃ v, σ[e.slot]? = some (some v) ∧ e.R.rep K H D fp e.val v) ∧ Hold K H D σ V os'
section
variable {K : Fr} {H H' D D' : Hp} {σ : L2.St}
theorem Hold.agree : ∀ {V : Vw} {os : List Addr}, (∀ p ∈ os, H' p = H p) → Le D D' → Hold K H D σ V os → Hold K H' D' σ V os
  | [], _, _, _, h => h
  | e :: V, _, k, d, ⟨fp, os', h1, ⟨v, h2, h3⟩, h4⟩ => ⟨fp, os', h1, ⟨v, h2, e.st K H H' D D' fp e.val v (fun p hp => k p (by rw [h1]; exact List.mem_append_left _ hp)) d h3⟩,
      Hold.agree (fun p hp => k p (by rw [h1]; exact List.mem_append_right _ hp)) d h4⟩
theorem beq_true {a b : Nat} (h : Nat.beq a b = true) : a = b := Nat.eq_of_beq_eq_true h
theorem Hold.rmv (i : Nat) : ∀ {V : Vw} {os : List Addr}, os.Nodup → Hold K H D σ V os → ∃ os', Hold K H D σ (rmv i V) os' ∧ os'.Nodup ∧ ∀ p ∈ os', p ∈ os
  | [], os, nd, h => ⟨os, h, nd, fun _ z => z⟩
  | e :: V, os, nd, ⟨fp, os', h1, h2, h3⟩ => by
    subst h1
    obtain ⟨nd1, nd2, dj⟩ := List.nodup_append.mp nd
    obtain ⟨o2, q1, q2, q3⟩ := Hold.rmv i nd2 h3
    unfold T.rmv
    cases c : Nat.beq e.slot i with
    | true => exact ⟨o2, q1, q2, fun p hp => List.mem_append_right _ (q3 p hp)⟩
    | false =>
      refine ⟨fp ++ o2, ⟨fp, o2, rfl, h2, q1⟩, List.nodup_append.mpr ⟨nd1, q2, fun a ha b hb => dj a ha b (q3 b hb)⟩, fun p hp => ?_⟩
      rcases List.mem_append.mp hp with z | z
      · exact List.mem_append_left _ z
      · exact List.mem_append_right _ (q3 p z)
theorem find_slot {i : Nat} : ∀ {V : Vw} {e : Ent}, find i V = some e → e.slot = i
  | [], _, h => nomatch h
  | e' :: V, e, h => by
    unfold find at h
    cases c : Nat.beq e'.slot i with
    | true => rw [c] at h; cases h; exact beq_true c
    | false => rw [c] at h; exact find_slot h
/-- the entry of a slot, and the rest -/
theorem Hold.find {i : Nat} : ∀ {V : Vw} {os : List Addr} {e : Ent}, find i V = some e → os.Nodup → Hold K H D σ V os →
    ∃ fp os' v, σ[i]? = some (some v) ∧ e.R.rep K H D fp e.val v ∧ Hold K H D σ (T.rmv i V) os' ∧ (fp ++ os').Nodup ∧ (∀ p ∈ fp ++ os', p ∈ os)
  | [], _, _, h, _, _ => nomatch h
  | e' :: V, os, e, h, nd, ⟨fp, os', h1, ⟨v, h2, h2'⟩, h3⟩ => by
    subst h1
    obtain ⟨nd1, nd2, dj⟩ := List.nodup_append.mp nd
    unfold T.find at h
    unfold T.rmv
    cases c : Nat.beq e'.slot i with
    | true =>
      rw [c] at h; cases h
      obtain ⟨o2, q1, q2, q3⟩ := Hold.rmv i nd2 h3
      refine ⟨fp, o2, v, by rw [← beq_true c]; exact h2, h2', q1, List.nodup_append.mpr ⟨nd1, q2, fun a ha b hb => dj a ha b (q3 b hb)⟩, fun p hp => ?_⟩
      rcases List.mem_append.mp hp with z | z
      · exact List.mem_append_left _ z
      · exact List.mem_append_right _ (q3 p z)
    | false =>
      rw [c] at h
      obtain ⟨f2, o2, v2, q1, q2, q3, q4, q5⟩ := Hold.find h nd2 h3
      obtain ⟨m1, m2, mj⟩ := List.nodup_append.mp q4
      refine ⟨f2, fp ++ o2, v2, q1, q2, ⟨fp, o2, rfl, ⟨v, h2, h2'⟩, q3⟩, ?_, fun p hp => ?_⟩
      · refine List.nodup_append.mpr ⟨m1, List.nodup_append.mpr ⟨nd1, m2, fun a ha b hb => dj a ha b (q5 b (List.mem_append_right _ hb))⟩, fun a ha b hb => ?_⟩
        rcases List.mem_append.mp hb with z | z
        · exact fun e => dj b z a (q5 a (List.mem_append_left _ ha)) e.symm
        · exact mj a ha b z
      · rcases List.mem_append.mp hp with z | z
        · exact List.mem_append_right _ (q5 p (List.mem_append_left _ z))
        · rcases List.mem_append.mp z with z | z
          · exact List.mem_append_left _ z
          · exact List.mem_append_right _ (q5 p (List.mem_append_right _ z))
theorem Hold.set {i : Nat} {w : Option V} : ∀ {V : Vw} {os : List Addr}, Hold K H D σ (T.rmv i V) os → Hold K H D (σ.set i w) (T.rmv i V) os
  | [], _, h => h
  | e :: V, os, h => by
    unfold T.rmv at h ⊢
    cases c : Nat.beq e.slot i with
    | true => rw [c] at h; exact Hold.set h
    | false =>
      rw [c] at h
      obtain ⟨fp, os', h1, ⟨v, h2, h3⟩, h4⟩ := h
      refine ⟨fp, os', h1, ⟨v, ?_, h3⟩, Hold.set h4⟩
      rw [List.getElem?_set_ne]
      · exact h2
      · intro z; rw [z] at c; rw [Nat.beq_refl] at c; cases c
theorem Hold.pick : ∀ {is : List Nat} {V : Vw} {os : List Addr}, os.Nodup → Hold K H D σ V os → ∃ os', Hold K H D σ (T.pick is V) os' ∧ os'.Nodup ∧ ∀ p ∈ os', p ∈ os
  | [], _, _, _, _ => ⟨[], rfl, List.nodup_nil, fun _ z => nomatch z⟩
  | i :: is, V, os, nd, h => by
    unfold T.pick
    cases c : T.find i V with
    | none => exact ⟨[], rfl, List.nodup_nil, fun _ z => nomatch z⟩
    | some e =>
      obtain ⟨fp, os', v, q1, q2, q3, q4, q5⟩ := Hold.find c nd h
      obtain ⟨m1, m2, mj⟩ := List.nodup_append.mp q4
      obtain ⟨o3, p1, p2, p3⟩ := Hold.pick (is := is) m2 q3
      refine ⟨fp ++ o3, ⟨fp, o3, rfl, ⟨v, by rw [find_slot c]; exact q1, q2⟩, p1⟩, List.nodup_append.mpr ⟨m1, p2, fun a ha b hb => mj a ha b (p3 b hb)⟩, fun p hp => ?_⟩
      rcases List.mem_append.mp hp with z | z
      · exact q5 p (List.mem_append_left _ z)
      · exact q5 p (List.mem_append_right _ (p3 p z))
end
/-- the state within a def: H0, D0 its entry -/
structure Rel (K : Fr) (H0 D0 : Hp) (V : Vw) (σ : L2.St) (H D : Hp) (os : List Addr) : Prop where
  ext : Ext H0 D0 H D
  own : ∀ p ∈ os, H0 p = none ∧ D p = none ∧ H p ≠ none
  nd : os.Nodup
  hold : Hold K H D σ V os
section
variable {K : Fr} {H0 D0 H D H1 D1 : Hp} {V : Vw} {σ : L2.St} {os : List Addr}
theorem Rel.grow (r : Rel K H0 D0 V σ H D os) (e : Ext H D H1 D1) : Rel K H0 D0 V σ H1 D1 os :=
  ⟨r.ext.trans e, fun p hp => ⟨(r.own p hp).1, e.out p (r.own p hp).2.1 (r.own p hp).2.2, e.h.ne (r.own p hp).2.2⟩, r.nd,
    r.hold.agree (fun p hp => e.h.eq (r.own p hp).2.2) e.d⟩
theorem Rel.pick (r : Rel K H0 D0 V σ H D os) (is : List Nat) : ∃ os', Rel K H0 D0 (T.pick is V) σ H D os' := by
  obtain ⟨os', q1, q2, q3⟩ := r.hold.pick (is := is) r.nd
  exact ⟨os', r.ext, fun p hp => r.own p (q3 p hp), q2, q1⟩
theorem Rel.rmv (r : Rel K H0 D0 V σ H D os) (i : Nat) : ∃ os', Rel K H0 D0 (T.rmv i V) σ H D os' ∧ ∀ p ∈ os', p ∈ os := by
  obtain ⟨os', q1, q2, q3⟩ := r.hold.rmv i r.nd
  exact ⟨os', ⟨r.ext, fun p hp => r.own p (q3 p hp), q2, q1⟩, q3⟩
theorem Rel.le (r : Rel K H0 D0 V σ H D os) : Le D H := r.ext.dh
end
/-- an exception as it lies -/
def XFrep (K : Fr) (D : Hp) : XF → V → Prop
  | .int i, v => v = .int i
  | .row l, v => (tRow tInt).rep K D l v
  | .str s, v => v = .str s
def XRep (K : Fr) (mg : Str → Option Value) (D : Hp) (e : Ex) (c : Value) (d : Option Addr) : Prop :=
  ∃ C, mg e.cls = some (.ref C) ∧ c = .ref C ∧ match e.fs with
    | [] => d = none
    | f :: fs => ∃ dx vs, d = some dx ∧ D dx = some (.xd vs) ∧ Paired (fun (p : Str × XF) (q : Str × V) => p.1 = q.1 ∧ XFrep K D p.2 q.2) (f :: fs) vs
/-- what a result's own objects are -/
def Frs (H D' H' : Hp) (fp : List Addr) : Prop := fp.Nodup ∧ ∀ p ∈ fp, H p = none ∧ D' p = none ∧ H' p ≠ none
theorem Frs.nil {H D' H' : Hp} : Frs H D' H' [] := ⟨List.nodup_nil, fun _ z => nomatch z⟩
theorem Frs.back {H H1 D' H' : Hp} {fp : List Addr} (e : Le H H1) (f : Frs H1 D' H' fp) : Frs H D' H' fp := ⟨f.1, fun p hp => ⟨e.free (f.2 p hp).1, (f.2 p hp).2⟩⟩
theorem Frs.grow {H D1 H1 D2 H2 : Hp} {fp : List Addr} (f : Frs H D1 H1 fp) (e : Ext H1 D1 H2 D2) : Frs H D2 H2 fp :=
  ⟨f.1, fun p hp => ⟨(f.2 p hp).1, e.out p (f.2 p hp).2.1 (f.2 p hp).2.2, e.h.ne (f.2 p hp).2.2⟩⟩
/-- what surrounds an expression: the wish about exceptions, the view that it leans on, the calls that there is room for -/
structure Ctx where
  W : WX
  Vx : Vw
  k : Nat
  c : Bool
structure Wf (X : Cx) (G : Ctx) : Prop where
  tk : Takes X G.W
  nd : X.N.Nodup
  room : G.c = true → Room G.k X.A
  calm : G.c = true → X.calm = true
  hu : X.A.units + 64 < cLine
  po : PassesOwn (model X.prog X.w) X.A X.env X.xe
def ePost {α : Type} (K : Fr) (mg : Str → Option Value) (G : Ctx) (H0 D0 : Hp) (σ : L2.St) (H D : Hp) (R : Rp α) (Q : VK) : Rs α → Prop
  | .ok a => ∀ v H' D' fp, Ext H D H' D' → R.rep K H' D' fp a v → Frs H D' H' fp → Q v H'
  | .ex e => ∀ c d H' D' os', Rel K H0 D0 G.Vx σ H' D' os' → XRep K mg D' e c d → G.W c d σ H'
def tE {α : Type} (K : Fr) (mg : Str → Option Value) (G : Ctx) (V : Vw) (R : Rp α) (r : M α) : TE := fun σ H Q =>
  ∃ H0 D0 D os, Rel K H0 D0 V σ H D os ∧ ∃ x, r = some x ∧ ePost K mg G H0 D0 σ H D R Q x
/-- a test's -/
def bPost (K : Fr) (mg : Str → Option Value) (G : Ctx) (H0 D0 : Hp) (σ : L2.St) (H D : Hp) (Q : Bool → Hp → Prop) : Rs Bool → Prop
  | .ok a => ∀ H' D', Ext H D H' D' → Q a H'
  | .ex e => ∀ c d H' D' os', Rel K H0 D0 G.Vx σ H' D' os' → XRep K mg D' e c d → G.W c d σ H'
def tB (K : Fr) (mg : Str → Option Value) (G : Ctx) (V : Vw) (r : M Bool) : TT := fun σ H Q =>
  ∃ H0 D0 D os, Rel K H0 D0 V σ H D os ∧ ∃ x, r = some x ∧ bPost K mg G H0 D0 σ H D Q x
def ET (X : Cx) (G : Ctx) (V : Vw) (e : Expr) {α : Type} (R : Rp α) (r : M α) : Prop := Wf X G → PE X e (tE X.K X.mg G V R r)
def BT (X : Cx) (G : Ctx) (V : Vw) (e : Expr) (r : M Bool) : Prop := Wf X G → PT X e (tB X.K X.mg G V r)
/-- .. within and, or -/
def BW (X : Cx) (G : Ctx) (V : Vw) (e : Expr) (r : M Bool) : Prop := Wf X G → PW X e (tB X.K X.mg G V r)
theorem _root_.L2.PE.weak {X : Cx} {e : Expr} {t t' : TE} (h : PE X e t) (w : ∀ σ H Q, t' σ H Q → t σ H Q) : PE X e t' := ⟨fun pins s σ H Q I hq => h.run pins s σ H Q I (w _ _ _ hq)⟩
theorem _root_.L2.PT.weak {X : Cx} {e : Expr} {t t' : TT} (h : PT X e t) (w : ∀ σ H Q, t' σ H Q → t σ H Q) : PT X e t' := ⟨fun pins s σ H Q I hq => h.run pins s σ H Q I (w _ _ _ hq)⟩
theorem _root_.L2.PW.weak {X : Cx} {e : Expr} {t t' : TT} (h : PW X e t) (w : ∀ σ H Q, t' σ H Q → t σ H Q) : PW X e t' := ⟨fun wh pins s σ H Q I hq => h.run wh pins s σ H Q I (w _ _ _ hq)⟩
theorem _root_.L2.PA.weak {X : Cx} {e : List Expr} {t t' : TA} (h : PA X e t) (w : ∀ σ H Q, t' σ H Q → t σ H Q) : PA X e t' := ⟨fun pos pins s σ H Q I hq => h.run pos pins s σ H Q I (w _ _ _ hq)⟩
theorem _root_.L2.PS.weak {X : Cx} {e : Stmt} {t t' : TS} (h : PS X e t) (w : ∀ D σ H, t' D σ H → t D σ H) : PS X e t' := ⟨fun pins s σ H D I hq => h.run pins s σ H D I (w _ _ _ hq)⟩
theorem _root_.L2.PSs.weak {X : Cx} {e : List Stmt} {t t' : TS} (h : PSs X e t) (w : ∀ D σ H, t' D σ H → t D σ H) : PSs X e t' := ⟨fun pins s σ H D I hq => h.run pins s σ H D I (w _ _ _ hq)⟩
section
variable {α β : Type} {K : Fr} {mg : Str → Option Value} {G : Ctx} {H0 D0 H D H1 D1 : Hp} {σ : L2.St} {V : Vw} {os : List Addr}
theorem ePost.grow {R : Rp α} {Q : VK} {x : Rs α} (h : ePost K mg G H0 D0 σ H D R Q x) (e : Ext H D H1 D1) : ePost K mg G H0 D0 σ H1 D1 R Q x := by
  cases x with
  | ok a => exact fun v H' D' fp e' r f => h v H' D' fp (e.trans e') r (f.back e.h)
  | ex _ => exact h
theorem bPost.grow {Q : Bool → Hp → Prop} {x : Rs Bool} (h : bPost K mg G H0 D0 σ H D Q x) (e : Ext H D H1 D1) : bPost K mg G H0 D0 σ H1 D1 Q x := by
  cases x with
  | ok a => exact fun H' D' e' => h H' D' (e.trans e')
  | ex _ => exact h
theorem bind_some {m : M α} {f : α → M β} {x : Rs β} (h : m.bind f = some x) : (∃ a, m = ok a ∧ f a = some x) ∨ ∃ e, m = exc e ∧ x = .ex e := by
  cases m with
  | none => cases h
  | some r =>
    cases r with
    | ok a => exact .inl ⟨a, rfl, h⟩
    | ex e => exact .inr ⟨e, rfl, (Option.some.inj h).symm⟩
/-- a part, then the rest -/
theorem seqE {R : Rp α} {m : M α} {f : α → M β} {x : Rs β} {P : Hp → Hp → Rs β → Prop} {Q' : VK} (hr : Rel K H0 D0 V σ H D os) (hx : m.bind f = some x) (hp : P H D x)
    (hex : ∀ e, P H D (.ex e) → ∀ c d H' D' os', Rel K H0 D0 G.Vx σ H' D' os' → XRep K mg D' e c d → G.W c d σ H')
    (hgrow : ∀ H1 D1, Ext H D H1 D1 → P H D x → P H1 D1 x)
    (k : ∀ a H1 D1 fp v, m = ok a → f a = some x → Ext H D H1 D1 → R.rep K H1 D1 fp a v → Frs H D1 H1 fp → Rel K H0 D0 V σ H1 D1 os → P H1 D1 x → Q' v H1) :
    tE K mg G V R m σ H Q' := by
  rcases bind_some hx with ⟨a, rfl, hf⟩ | ⟨e, rfl, rfl⟩
  · exact ⟨H0, D0, D, os, hr, .ok a, rfl, fun v H' D' fp e r f => k a H' D' fp v rfl hf e r f (hr.grow e) (hgrow _ _ e hp)⟩
  · exact ⟨H0, D0, D, os, hr, .ex e, rfl, hex e hp⟩
theorem seqEE {R : Rp α} {R' : Rp β} {m : M α} {f : α → M β} {x : Rs β} {Q Q' : VK} (hr : Rel K H0 D0 V σ H D os) (hx : m.bind f = some x) (hp : ePost K mg G H0 D0 σ H D R' Q x)
    (k : ∀ a H1 D1 fp v, m = ok a → f a = some x → Ext H D H1 D1 → R.rep K H1 D1 fp a v → Frs H D1 H1 fp → Rel K H0 D0 V σ H1 D1 os → ePost K mg G H0 D0 σ H1 D1 R' Q x → Q' v H1) :
    tE K mg G V R m σ H Q' := seqE (P := fun H D x => ePost K mg G H0 D0 σ H D R' Q x) hr hx hp (fun _ h => h) (fun _ _ e h => h.grow e) k
theorem seqEB {R : Rp α} {m : M α} {f : α → M Bool} {x : Rs Bool} {Q : Bool → Hp → Prop} {Q' : VK} (hr : Rel K H0 D0 V σ H D os) (hx : m.bind f = some x) (hp : bPost K mg G H0 D0 σ H D Q x)
    (k : ∀ a H1 D1 fp v, m = ok a → f a = some x → Ext H D H1 D1 → R.rep K H1 D1 fp a v → Frs H D1 H1 fp → Rel K H0 D0 V σ H1 D1 os → bPost K mg G H0 D0 σ H1 D1 Q x → Q' v H1) :
    tE K mg G V R m σ H Q' := seqE (P := fun H D x => bPost K mg G H0 D0 σ H D Q x) hr hx hp (fun _ h => h) (fun _ _ e h => h.grow e) k
/-- a test, then the rest -/
theorem seqB {m : M Bool} {f : Bool → M β} {x : Rs β} {P : Hp → Hp → Rs β → Prop} {Q' : Bool → Hp → Prop} (hr : Rel K H0 D0 V σ H D os) (hx : m.bind f = some x) (hp : P H D x)
    (hex : ∀ e, P H D (.ex e) → ∀ c d H' D' os', Rel K H0 D0 G.Vx σ H' D' os' → XRep K mg D' e c d → G.W c d σ H')
    (hgrow : ∀ H1 D1, Ext H D H1 D1 → P H D x → P H1 D1 x)
    (k : ∀ a H1 D1, m = ok a → f a = some x → Ext H D H1 D1 → Rel K H0 D0 V σ H1 D1 os → P H1 D1 x → Q' a H1) :
    tB K mg G V m σ H Q' := by
  rcases bind_some hx with ⟨a, rfl, hf⟩ | ⟨e, rfl, rfl⟩
  · exact ⟨H0, D0, D, os, hr, .ok a, rfl, fun H' D' e => k a H' D' rfl hf e (hr.grow e) (hgrow _ _ e hp)⟩
  · exact ⟨H0, D0, D, os, hr, .ex e, rfl, hex e hp⟩
theorem seqBB {m : M Bool} {f : Bool → M Bool} {x : Rs Bool} {Q : Bool → Hp → Prop} {Q' : Bool → Hp → Prop} (hr : Rel K H0 D0 V σ H D os) (hx : m.bind f = some x) (hp : bPost K mg G H0 D0 σ H D Q x)
    (k : ∀ a H1 D1, m = ok a → f a = some x → Ext H D H1 D1 → Rel K H0 D0 V σ H1 D1 os → bPost K mg G H0 D0 σ H1 D1 Q x → Q' a H1) :
    tB K mg G V m σ H Q' := seqB (P := fun H D x => bPost K mg G H0 D0 σ H D Q x) hr hx hp (fun _ h => h) (fun _ _ e h => h.grow e) k
/-- handing on a value of data, the heap as it is -/
theorem ePost.here {A : Dt α} {Q : VK} {a : α} {v : L2.V} (hr : Rel K H0 D0 V σ H D os) (h : ePost K mg G H0 D0 σ H D (dat A) Q (.ok a)) (r : A.rep K D a v) : Q v H := h v H D [] (Ext.refl hr.le) ⟨rfl, r⟩ .nil
end
end T
set_option maxRecDepth 100000
set_option maxHeartbeats 4000000
namespace T
open PySem PySem.Spec PyProof.Rows L2
section
variable {X : Cx} {G : Ctx} {Γ : Vw} {α β γ δ : Type} {a b c : Expr} {pos : Pos}
/-! ### names, constants -/
theorem E_var (i : Nat) {x : Str} {A : Dt α} {val : α} (hf : find i Γ = some (eD i A val) := by rfl) (hN : X.N[i]? = some x := by rfl) (hv : Vis X.env.scope x := by first | exact Or.inl rfl | exact Or.inr (Or.inl rfl) | exact Or.inr (Or.inr rfl))
    (hd : (x == ("__debug__" : Str)) = false := by decide) (hcd : (x == ("__classdict__" : Str)) = false := by decide) : ET X G Γ (.Name x pos) (dat A) (ok val) := fun w =>
  (pe_var hN hv hd hcd).weak fun σ H Q ⟨H0, D0, D, os, hr, x, hx, hp⟩ => by
    cases hx
    obtain ⟨fp, os', v, q1, ⟨q2, q3⟩, _, _, _⟩ := hr.hold.find hf hr.nd
    exact ⟨v, q1, hp.here hr q3⟩
/-- a list of one's own, to be read at once -/
theorem E_own (i : Nat) {x : Str} {A : Dt α} {val : List α} (hf : find i Γ = some (eO i A val) := by rfl) (hN : X.N[i]? = some x := by rfl) (hv : Vis X.env.scope x := by first | exact Or.inl rfl | exact Or.inr (Or.inl rfl) | exact Or.inr (Or.inr rfl))
    (hd : (x == ("__debug__" : Str)) = false := by decide) (hcd : (x == ("__classdict__" : Str)) = false := by decide) : ET X G Γ (.Name x pos) (bor A) (ok val) := fun w =>
  (pe_var hN hv hd hcd).weak fun σ H Q ⟨H0, D0, D, os, hr, x, hx, hp⟩ => by
    cases hx
    obtain ⟨fp, os', v, q1, ⟨p, vs, r1, r2, r3, r4⟩, _, _, _⟩ := hr.hold.find hf hr.nd
    exact ⟨v, q1, hp v H D [] (Ext.refl hr.le) ⟨rfl, p, vs, r1, SqL.of r3, r4⟩ .nil⟩
theorem E_int {i : Int} {j : Nat} : ET X G Γ (.Constant (.int i) j pos) (dat tInt) (ok i) := fun w =>
  pe_int.weak fun σ H Q ⟨H0, D0, D, os, hr, x, hx, hp⟩ => by cases hx; exact hp.here hr rfl
theorem E_bool {i : Bool} {j : Nat} : ET X G Γ (.Constant (.bool i) j pos) (dat tBool) (ok i) := fun w =>
  pe_bl.weak fun σ H Q ⟨H0, D0, D, os, hr, x, hx, hp⟩ => by cases hx; exact hp.here hr rfl
theorem E_str {i : Str} {j : Nat} : ET X G Γ (.Constant (.str i) j pos) (dat tStr) (ok i) := fun w =>
  pe_str.weak fun σ H Q ⟨H0, D0, D, os, hr, x, hx, hp⟩ => by cases hx; exact hp.here hr rfl
/-- a constant of the module -/
structure GlobD (K : Fr) (mg : Str → Option Value) (x : Str) (A : Dt α) (val : α) : Prop where
  ex : ∃ u v, mg x = some u ∧ RelV v u ∧ ∀ H, A.rep K H val v
theorem E_glob {x : Str} {A : Dt α} {val : α} (h : GlobD X.K X.mg x A val) (hg : Gl X x := by rfl) (hd : (x == ("__debug__" : Str)) = false := by decide) : ET X G Γ (.Name x pos) (dat A) (ok val) := fun w => by
  obtain ⟨u, v, h1, h2, h3⟩ := h.ex
  exact (pe_glob hg h1 h2 hd).weak fun σ H Q ⟨H0, D0, D, os, hr, x, hx, hp⟩ => by cases hx; exact hp.here hr (h3 D)
/-! ### from one type to another -/
theorem E_eq {R : Rp α} {r r' : M α} (h : ET X G Γ a R r) (e : r = r') : ET X G Γ a R r' := e ▸ h
/-- a fresh list, never changed from here on -/
theorem E_frz {A : Dt α} {r : M (List α)} (h : ET X G Γ a (own A) r) : ET X G Γ a (dat (tLst A)) r := fun w =>
  (h w).weak fun σ H Q ⟨H0, D0, D, os, hr, x, hx, hp⟩ => ⟨H0, D0, D, os, hr, x, hx, by
    cases x with
    | ex e => exact hp
    | ok xs =>
      intro v H' D' fp e ⟨p, vs, r1, r2, r3, r4⟩ f
      subst r1; subst r2
      obtain ⟨f1, f2, f3⟩ := f.2 p List.mem_cons_self
      have hup : Le D' (upd D' p (.lst vs)) := fun b o z => by rw [upd_ne (ne_of_none z f2)]; exact z
      refine hp (.ref p) H' (upd D' p (.lst vs)) [] ⟨e.h, e.d.trans hup, fun b o z => ?_, fun b h1 h2 => ?_⟩ ⟨rfl, p, vs, rfl, upd_same, A.monos hup r4⟩ .nil
      · by_cases q : b = p
        · subst q; rw [upd_same] at z; cases z; exact r3
        · rw [upd_ne q] at z; exact e.dh b o z
      · by_cases q : b = p
        · subst q; exact absurd f1 h2
        · rw [upd_ne q]; exact e.out b h1 h2⟩
theorem E_bor {A : Dt α} {r : M (List α)} (h : ET X G Γ a (dat (tLst A)) r) : ET X G Γ a (bor A) r := fun w =>
  (h w).weak fun σ H Q ⟨H0, D0, D, os, hr, x, hx, hp⟩ => ⟨H0, D0, D, os, hr, x, hx, by
    cases x with
    | ex e => exact hp
    | ok xs =>
      intro v H' D' fp e ⟨h0, p, vs, r1, r3, r4⟩ f
      exact hp v H' D' [] e ⟨rfl, p, vs, r1, SqL.of (e.dh _ _ r3), r4⟩ .nil⟩
theorem E_borF {A : Dt α} {r : M (List α)} (h : ET X G Γ a (own A) r) : ET X G Γ a (bor A) r := E_bor (E_frz h)
theorem Paired.ints {K : Fr} {D : Hp} : ∀ {xs : List Int}, Paired (tInt.rep K D) xs (xs.map V.int)
  | [] => .nil
  | x :: xs => .cons rfl (Paired.ints (xs := xs))
theorem E_borS {r : M (List Int)} (h : ET X G Γ a (dat tScr) r) : ET X G Γ a (bor tInt) r := fun w =>
  (h w).weak fun σ H Q ⟨H0, D0, D, os, hr, x, hx, hp⟩ => ⟨H0, D0, D, os, hr, x, hx, by
    cases x with
    | ex e => exact hp
    | ok xs =>
      intro v H' D' fp e ⟨h0, p, r1, r3⟩ f
      exact hp v H' D' [] e ⟨rfl, p, _, r1, Same.seq e.dh r3, Paired.ints⟩ .nil⟩
/-- what is known not to be None -/
def unO {α : Type} : Option α → M α
  | some x => ok x
  | none => stuck
/-! ### operations of two -/
def NX2 {α β γ : Type} (g : α → β → M γ) : Prop := ∀ a b e, g a b ≠ exc e
def Op2 (K : Fr) (r2 : R2) (A : Rp α) (B : Rp β) (R : Rp γ) (g : α → β → M γ) : Prop :=
  ∀ (H D : Hp) a b va vb fa fb c Q, Le D H → A.rep K H D fa a va → B.rep K H D fb b vb → g a b = ok c →
    (∀ v H' D' fp, Ext H D H' D' → R.rep K H' D' fp c v → Frs H D' H' fp → Q v H') → r2 va vb H Q
theorem E_op2 {op : Operator} {r2 : R2} {A : Rp α} {B : Rp β} {R : Rp γ} {g : α → β → M γ} {ra : M α} {rb : M β} (ho : OpR X (binaryOp op) r2) (hs : Op2 X.K r2 A B R g) (nx : NX2 g)
    (ha : ET X G Γ a A ra) (hb : ET X G Γ b B rb) : ET X G Γ (.BinOp a op b pos) R (ra.bind fun x => rb.bind fun y => g x y) := fun w =>
  (pe_op ho (ha w) (hb w)).weak fun σ H Q ⟨H0, D0, D, os, hr, x, hx, hp⟩ =>
    seqEE hr hx hp fun i H1 D1 fp v _ hx1 e1 r1 f1 hr1 hp1 => seqEE hr1 hx1 hp1 fun j H2 D2 fp2 v2 _ hx2 e2 r2 f2 hr2 hp2 => by
      cases x with
      | ok c => exact hs H2 D2 i j v v2 fp fp2 c Q hr2.le (A.mono e2.h e2.d r1) r2 hx2 hp2
      | ex e => exact absurd hx2 (nx _ _ _)
/-- comparisons, as values -/
def Cp2 (K : Fr) (r2 : R2) (A : Rp α) (B : Rp β) (g : α → β → Bool) : Prop :=
  ∀ (H D : Hp) a b va vb fa fb Q, Le D H → A.rep K H D fa a va → B.rep K H D fb b vb → Q (.bl (g a b)) H → r2 va vb H Q
theorem E_cmp {op : CmpOp} {r2 : R2} {A : Rp α} {B : Rp β} {g : α → β → Bool} {ra : M α} {rb : M β} (ho : OpR X (compareOp op) r2) (hs : Cp2 X.K r2 A B g) (hm : behindInMarks op b = false)
    (ha : ET X G Γ a A ra) (hb : ET X G Γ b B rb) : ET X G Γ (.Compare a [op] [b] pos) (dat tBool) (ra.bind fun x => rb.bind fun y => ok (g x y)) := fun w =>
  (pe_cmpR ho (ha w) (hb w) hm).weak fun σ H Q ⟨H0, D0, D, os, hr, x, hx, hp⟩ =>
    seqEE hr hx hp fun i H1 D1 fp v _ hx1 e1 r1 f1 hr1 hp1 => seqEE hr1 hx1 hp1 fun j H2 D2 fp2 v2 _ hx2 e2 r2 f2 hr2 hp2 => by
      cases hx2
      exact hs H2 D2 i j v v2 fp fp2 Q hr2.le (A.mono e2.h e2.d r1) r2 (hp2.here hr2 rfl)
theorem B_cmp {op : CmpOp} {r2 : R2} {A : Rp α} {B : Rp β} {g : α → β → Bool} {ra : M α} {rb : M β} (ho : OpR X (compareOp op) r2) (hs : Cp2 X.K r2 A B g) (hm : behindInMarks op b = false)
    (ha : ET X G Γ a A ra) (hb : ET X G Γ b B rb) : BT X G Γ (.Compare a [op] [b] pos) (ra.bind fun x => rb.bind fun y => ok (g x y)) := fun w =>
  (pt_cmpR ho (ha w) (hb w) hm).weak fun σ H Q ⟨H0, D0, D, os, hr, x, hx, hp⟩ =>
    seqEB hr hx hp fun i H1 D1 fp v _ hx1 e1 r1 f1 hr1 hp1 => seqEB hr1 hx1 hp1 fun j H2 D2 fp2 v2 _ hx2 e2 r2 f2 hr2 hp2 => by
      cases hx2
      exact hs H2 D2 i j v v2 fp fp2 _ hr2.le (A.mono e2.h e2.d r1) r2 ⟨_, rfl, hp2 H2 D2 (Ext.refl hr2.le)⟩
/-! ### numbers -/
theorem op2I {r2 : R2} {g : Int → Int → M Int} (h : ∀ H i j c Q, g i j = ok c → Q (.int c) H → r2 (.int i) (.int j) H Q) (K : Fr) : Op2 K r2 (dat tInt) (dat tInt) (dat tInt) g := by
  intro H D i j va vb fa fb c Q le ⟨_, z1⟩ ⟨_, z2⟩ hg k
  cases (show va = V.int i from z1)
  cases (show vb = V.int j from z2)
  exact h H i j c Q hg (k (.int c) H D [] (Ext.refl le) ⟨rfl, rfl⟩ .nil)
theorem E_add {ra rb : M Int} (ha : ET X G Γ a (dat tInt) ra) (hb : ET X G Γ b (dat tInt) rb) : ET X G Γ (.BinOp a .Add b pos) (dat tInt) (ra.bind fun x => rb.bind fun y => ok (x + y)) :=
  E_op2 op_add (op2I (fun H i j c Q e q => by cases e; exact ⟨_, _, rfl, rfl, q⟩) _) (fun _ _ _ z => nomatch z) ha hb
theorem E_sub {ra rb : M Int} (ha : ET X G Γ a (dat tInt) ra) (hb : ET X G Γ b (dat tInt) rb) : ET X G Γ (.BinOp a .Sub b pos) (dat tInt) (ra.bind fun x => rb.bind fun y => ok (x - y)) :=
  E_op2 op_sub (op2I (fun H i j c Q e q => by cases e; exact ⟨_, _, rfl, rfl, q⟩) _) (fun _ _ _ z => nomatch z) ha hb
def MulOk (i j : Int) : Prop := (i.natAbs < 2 ^ 64 ∨ j.natAbs < 2 ^ 64) ∨ i.natAbs.log2 + j.natAbs.log2 < 1000000
instance (i j : Int) : Decidable (MulOk i j) := by unfold MulOk; exact inferInstance
def pmul (i j : Int) : M Int := grd (MulOk i j) (ok (i * j))
theorem grd_some {c : Prop} [Decidable c] {m : M α} {x : Rs α} (h : grd c m = some x) : c ∧ m = some x := by
  by_cases hc : c
  · rw [grd_pos hc] at h; exact ⟨hc, h⟩
  · have e : grd c m = none := grd_neg hc m
    rw [e] at h; cases h
theorem grd_ok {c : Prop} [Decidable c] {m : M α} {x : α} (h : grd c m = ok x) : c ∧ m = ok x := grd_some h
theorem grd_nx {c : Prop} [Decidable c] {m : M α} {e : Ex} (h : m ≠ exc e) : grd c m ≠ exc e := fun z => h (grd_some z).2
theorem nat64 {i : Int} (h : i.natAbs < 2 ^ 64) : -(2 ^ 64) < i ∧ i < 2 ^ 64 := by omega
theorem op_mulA : OpR X (binaryOp .Mult) (rI MulOk fun i j => .int (i * j)) := opI fun i j _ _ _ _ _ hc q => mul_int q (by
  rcases hc with (h | h) | h
  · exact CMul.ok (.inl (nat64 h))
  · exact CMul.ok (.inr (nat64 h))
  · exact CMulW.ok h)
theorem E_mul {ra rb : M Int} (ha : ET X G Γ a (dat tInt) ra) (hb : ET X G Γ b (dat tInt) rb) : ET X G Γ (.BinOp a .Mult b pos) (dat tInt) (ra.bind fun x => rb.bind fun y => pmul x y) :=
  E_op2 op_mulA (op2I (fun H i j c Q e q => by obtain ⟨h1, h2⟩ := grd_ok e; cases h2; exact ⟨_, _, rfl, rfl, h1, q⟩) _) (fun _ _ _ => grd_nx (fun z => nomatch z)) ha hb
/-- one factor written and small -/
theorem E_mulL {i : Int} {rb : M Int} (h : i.natAbs < 2 ^ 64) (ha : ET X G Γ a (dat tInt) (ok i)) (hb : ET X G Γ b (dat tInt) rb) : ET X G Γ (.BinOp a .Mult b pos) (dat tInt) (rb.bind fun y => ok (i * y)) :=
  E_eq (E_mul ha hb) (by show (rb.bind fun y => pmul i y) = _; congr 1; funext y; exact grd_pos (.inl (.inl h)) _)
theorem E_mulR {j : Int} {ra : M Int} (h : j.natAbs < 2 ^ 64) (ha : ET X G Γ a (dat tInt) ra) (hb : ET X G Γ b (dat tInt) (ok j)) : ET X G Γ (.BinOp a .Mult b pos) (dat tInt) (ra.bind fun x => ok (x * j)) :=
  E_eq (E_mul ha hb) (by congr 1; funext y; exact grd_pos (.inl (.inr h)) _)
def pmod (i j : Int) : M Int := grd (j ≠ 0) (ok (i.fmod j))
def pdiv (i j : Int) : M Int := grd (j ≠ 0 ∧ j.natAbs.log2 < 9000) (ok (i.fdiv j))
theorem op_fdivA : OpR X (binaryOp .FloorDiv) (rI (fun i j => j ≠ 0 ∧ j.natAbs.log2 < 9000) fun i j => .int (i.fdiv j)) := opI fun i j _ _ _ _ _ hc q =>
  floordiv_int hc.1 q (.inl (PyProof.noPylong_of_log2 hc.2))
theorem E_mod {ra rb : M Int} (ha : ET X G Γ a (dat tInt) ra) (hb : ET X G Γ b (dat tInt) rb) : ET X G Γ (.BinOp a .Mod b pos) (dat tInt) (ra.bind fun x => rb.bind fun y => pmod x y) :=
  E_op2 op_modN (op2I (fun H i j c Q e q => by obtain ⟨h1, h2⟩ := grd_ok e; cases h2; exact ⟨_, _, rfl, rfl, h1, q⟩) _) (fun _ _ _ => grd_nx (fun z => nomatch z)) ha hb
theorem E_div {ra rb : M Int} (ha : ET X G Γ a (dat tInt) ra) (hb : ET X G Γ b (dat tInt) rb) : ET X G Γ (.BinOp a .FloorDiv b pos) (dat tInt) (ra.bind fun x => rb.bind fun y => pdiv x y) :=
  E_op2 op_fdivA (op2I (fun H i j c Q e q => by obtain ⟨h1, h2⟩ := grd_ok e; cases h2; exact ⟨_, _, rfl, rfl, h1, q⟩) _) (fun _ _ _ => grd_nx (fun z => nomatch z)) ha hb
theorem E_modR {j : Int} {ra : M Int} (h : 0 < j) (ha : ET X G Γ a (dat tInt) ra) (hb : ET X G Γ b (dat tInt) (ok j)) : ET X G Γ (.BinOp a .Mod b pos) (dat tInt) (ra.bind fun x => ok (x % j)) :=
  E_eq (E_mod ha hb) (by congr 1; funext y; show grd _ _ = _; rw [grd_pos (by omega : j ≠ 0), Int.fmod_eq_emod_of_nonneg _ (by omega)])
instance (i j : Int) : Decidable (CPow i j) := by unfold CPow; exact inferInstance
def ppow (i j : Int) : M Int := grd (CPow i j) (ok (i ^ j.toNat))
theorem E_pow {ra rb : M Int} (ha : ET X G Γ a (dat tInt) ra) (hb : ET X G Γ b (dat tInt) rb) : ET X G Γ (.BinOp a .Pow b pos) (dat tInt) (ra.bind fun x => rb.bind fun y => ppow x y) :=
  E_op2 op_pow (op2I (fun H i j c Q e q => by obtain ⟨h1, h2⟩ := grd_ok e; cases h2; exact ⟨_, _, rfl, rfl, h1, q⟩) _) (fun _ _ _ => grd_nx (fun z => nomatch z)) ha hb
theorem E_powC {i : Int} (n : Nat) (h : i.natAbs < 2 ^ 64) (hn : n ≤ 1000000) (ha : ET X G Γ a (dat tInt) (ok i)) (hb : ET X G Γ b (dat tInt) (ok (n : Int))) : ET X G Γ (.BinOp a .Pow b pos) (dat tInt) (ok (i ^ n)) :=
  E_eq (E_pow ha hb) (by show grd _ _ = _; rw [grd_pos (show CPow i n from ⟨by omega, by omega, h⟩), Int.toNat_natCast])
theorem E_neg {ra : M Int} (ha : ET X G Γ a (dat tInt) ra) : ET X G Γ (.UnaryOp .USub a pos) (dat tInt) (ra.bind fun x => ok (-x)) := fun w =>
  (pe_un un_neg (ha w)).weak fun σ H Q ⟨H0, D0, D, os, hr, x, hx, hp⟩ =>
    seqEE hr hx hp fun i H1 D1 fp v _ hx1 e1 r1 f1 hr1 hp1 => by
      cases hx1
      obtain ⟨_, rfl⟩ := r1
      exact ⟨i, rfl, hp1.here hr1 rfl⟩
theorem cp2I {r2 : R2} {g : Int → Int → Bool} (h : ∀ H i j Q, Q (.bl (g i j)) H → r2 (.int i) (.int j) H Q) (K : Fr) : Cp2 K r2 (dat tInt) (dat tInt) g := by
  intro H D i j va vb fa fb Q le ⟨_, z1⟩ ⟨_, z2⟩ k
  cases (show va = V.int i from z1)
  cases (show vb = V.int j from z2)
  exact h H i j Q k
theorem cp_lt (K : Fr) : Cp2 K (rI0 fun i j => .bl (decide (i < j))) (dat tInt) (dat tInt) fun i j => decide (i < j) := cp2I (fun H i j Q q => ⟨i, j, rfl, rfl, q⟩) K
theorem cp_gt (K : Fr) : Cp2 K (rI0 fun i j => .bl (decide (j < i))) (dat tInt) (dat tInt) fun i j => decide (j < i) := cp2I (fun H i j Q q => ⟨i, j, rfl, rfl, q⟩) K
theorem cp_ge (K : Fr) : Cp2 K (rI0 fun i j => .bl (decide (j ≤ i))) (dat tInt) (dat tInt) fun i j => decide (j ≤ i) := cp2I (fun H i j Q q => ⟨i, j, rfl, rfl, q⟩) K
theorem cp_eq (K : Fr) : Cp2 K rEq (dat tInt) (dat tInt) fun i j => decide (i = j) := cp2I (fun H i j Q q => ⟨rfl, by
  have : decide (V.int i = V.int j) = decide (i = j) := by rw [dec_int]; exact Bool.beq_eq_decide_eq _ _
  rw [this]; exact q⟩) K
theorem cp_ne (K : Fr) : Cp2 K rNe (dat tInt) (dat tInt) fun i j => !decide (i = j) := cp2I (fun H i j Q q => ⟨rfl, by
  have : decide (V.int i = V.int j) = decide (i = j) := by rw [dec_int]; exact Bool.beq_eq_decide_eq _ _
  rw [this]; exact q⟩) K
/-! ### tests -/
theorem B_val {ra : M Bool} (ha : ET X G Γ a (dat tBool) ra) (he : ∀ whole, isTrue a X.env whole = (do let v ← whole; standAt a.pos; holding [v] (truthy v)) := by intro _; rfl) : BT X G Γ a ra := fun w =>
  (pt_val (ha w) he).weak fun σ H Q ⟨H0, D0, D, os, hr, x, hx, hp⟩ => ⟨H0, D0, D, os, hr, x, hx, by
    cases x with
    | ex e => exact hp
    | ok b =>
      intro v H' D' fp e ⟨h1, h2⟩ f
      exact ⟨b, h2, hp H' D' e⟩⟩
theorem B_eq {r r' : M Bool} (h : BT X G Γ a r) (e : r = r') : BT X G Γ a r' := e ▸ h
theorem B_not {ra : M Bool} (ha : BT X G Γ a ra) : BT X G Γ (.UnaryOp .Not a pos) (ra.bind fun x => ok (!x)) := fun w =>
  (pt_not (ha w)).weak fun σ H Q ⟨H0, D0, D, os, hr, x, hx, hp⟩ =>
    seqBB hr hx hp fun i H1 D1 _ hx1 e1 hr1 hp1 => by
      cases hx1
      exact hp1 H1 D1 (Ext.refl hr1.le)
variable {rest : List Expr}
theorem W_or1 {ra : M Bool} (ha : BT X G Γ a ra) : BW X G Γ (.BoolOp .Or [a] pos) ra := fun w => pw_or1 (ha w)
theorem W_or {ra rb : M Bool} (ha : BT X G Γ a ra) (hb : BW X G Γ (.BoolOp .Or (b :: rest) pos) rb) : BW X G Γ (.BoolOp .Or (a :: b :: rest) pos) (ra.bind fun x => if x = true then ok true else rb) := fun w =>
  (pw_or (ha w) (hb w)).weak fun σ H Q ⟨H0, D0, D, os, hr, x, hx, hp⟩ =>
    seqBB hr hx hp fun i H1 D1 _ hx1 e1 hr1 hp1 => by
      cases i with
      | false => exact ⟨H0, D0, D1, os, hr1, x, hx1, hp1⟩
      | true => cases hx1; exact hp1 H1 D1 (Ext.refl hr1.le)
theorem B_w {ra : M Bool} (ha : BW X G Γ a ra) : BT X G Γ a ra := fun w => (ha w).pt
/-- and, or as values -/
theorem E_one {op} {ra : M Bool} (ha : ET X G Γ a (dat tBool) ra) : ET X G Γ (.BoolOp op [a] pos) (dat tBool) ra := fun w => pe_one (ha w)
theorem E_and {ra rb : M Bool} (ha : ET X G Γ a (dat tBool) ra) (hb : ET X G Γ (.BoolOp .And (b :: rest) pos) (dat tBool) rb) : ET X G Γ (.BoolOp .And (a :: b :: rest) pos) (dat tBool) (ra.bind fun x => if x = true then rb else ok false) := fun w =>
  (pe_and (ha w) (hb w)).weak fun σ H Q ⟨H0, D0, D, os, hr, x, hx, hp⟩ =>
    seqEE hr hx hp fun i H1 D1 fp v _ hx1 e1 r1 f1 hr1 hp1 => by
      refine ⟨i, r1.2, ?_⟩
      cases i with
      | true => exact ⟨H0, D0, D1, os, hr1, x, hx1, hp1⟩
      | false => cases hx1; exact hp1.here hr1 (show V.bl false = V.bl false from rfl)
theorem E_or {ra rb : M Bool} (ha : ET X G Γ a (dat tBool) ra) (hb : ET X G Γ (.BoolOp .Or (b :: rest) pos) (dat tBool) rb) : ET X G Γ (.BoolOp .Or (a :: b :: rest) pos) (dat tBool) (ra.bind fun x => if x = true then ok true else rb) := fun w =>
  (pe_or (ha w) (hb w)).weak fun σ H Q ⟨H0, D0, D, os, hr, x, hx, hp⟩ =>
    seqEE hr hx hp fun i H1 D1 fp v _ hx1 e1 r1 f1 hr1 hp1 => by
      refine ⟨i, r1.2, ?_⟩
      cases i with
      | false => exact ⟨H0, D0, D1, os, hr1, x, hx1, hp1⟩
      | true => cases hx1; exact hp1.here hr1 (show V.bl true = V.bl true from rfl)
theorem E_not {ra : M Bool} (ha : ET X G Γ a (dat tBool) ra) : ET X G Γ (.UnaryOp .Not a pos) (dat tBool) (ra.bind fun x => ok (!x)) := fun w =>
  (pe_not (ha w)).weak fun σ H Q ⟨H0, D0, D, os, hr, x, hx, hp⟩ =>
    seqEE hr hx hp fun i H1 D1 fp v _ hx1 e1 r1 f1 hr1 hp1 => by
      cases hx1
      exact ⟨i, r1.2, hp1.here hr1 rfl⟩
end
end T
set_option maxRecDepth 100000
set_option maxHeartbeats 4000000
namespace T
open PySem PySem.Spec PyProof.Rows L2
/-! ### arguments -/
inductive Ap : Type → Type 1 where
  | nil : Ap Unit
  | cons {α τ : Type} (A : Dt α) (B : Ap τ) : Ap (α × τ)
def Ap.rep (K : Fr) (D : Hp) : {τ : Type} → Ap τ → τ → List L2.V → Prop
  | _, .nil, _, vs => vs = []
  | _, .cons A B, t, vs => ∃ v r, vs = v :: r ∧ A.rep K D t.1 v ∧ Ap.rep K D B t.2 r
theorem Ap.rep_cons {K : Fr} {D : Hp} {α τ : Type} {A : Dt α} {B : Ap τ} {t : α × τ} {vs : List L2.V} : Ap.rep K D (.cons A B) t vs ↔ ∃ v r, vs = v :: r ∧ A.rep K D t.1 v ∧ Ap.rep K D B t.2 r := Iff.rfl
def Ap.len : {τ : Type} → Ap τ → Nat
  | _, .nil => 0
  | _, .cons A B => B.len + 1
def Ap.view : {τ : Type} → Nat → Ap τ → τ → Vw
  | _, _, .nil, _ => []
  | _, i, .cons A B, t => eD i A t.1 :: Ap.view (i + 1) B t.2
theorem Ap.mono {K : Fr} {H H' : Hp} (e : Le H H') : ∀ {τ : Type} {B : Ap τ} {t : τ} {vs : List L2.V}, B.rep K H t vs → B.rep K H' t vs
  | _, .nil, _, _, h => h
  | _, .cons A B, t, vs, h => by
    obtain ⟨v, r, h1, h2, h3⟩ := Ap.rep_cons.mp h
    exact Ap.rep_cons.mpr ⟨v, r, h1, A.mono e h2, Ap.mono e h3⟩
theorem Ap.length {K : Fr} {H : Hp} : ∀ {τ : Type} {B : Ap τ} {t : τ} {vs : List L2.V}, B.rep K H t vs → vs.length = B.len
  | _, .nil, _, _, h => by cases (show _ = [] from h); rfl
  | _, .cons A B, t, vs, h => by
    obtain ⟨v, r, h1, h2, h3⟩ := Ap.rep_cons.mp h
    subst h1; exact congrArg (· + 1) (Ap.length h3)
theorem Ap.hold {K : Fr} {H D : Hp} {more : List (Option L2.V)} : ∀ {τ : Type} {B : Ap τ} {t : τ} {vs : List L2.V} (pre : List (Option L2.V)), B.rep K D t vs → Hold K H D (pre ++ vs.map some ++ more) (B.view pre.length t) []
  | _, .nil, _, _, _, _ => rfl
  | _, .cons A B, t, vs, pre, h => by
    obtain ⟨v, r, h1, h2, h3⟩ := Ap.rep_cons.mp h
    subst h1
    refine ⟨[], [], rfl, ⟨v, ?_, rfl, h2⟩, ?_⟩
    · show (pre ++ (some v :: r.map some) ++ more)[pre.length]? = _
      simp
    · have := Ap.hold (K := K) (H := H) (D := D) (more := more) (pre ++ [some v]) h3
      rw [List.length_append] at this
      simpa using this
def aPost {τ γ : Type} (K : Fr) (B : Ap τ) (k : τ → M γ) (H D : Hp) (x : Rs γ) (P : Hp → Hp → Rs γ → Prop) (Q : List L2.V → Hp → Prop) : Prop :=
  ∀ t vs H' D', k t = some x → Ext H D H' D' → B.rep K D' t vs → P H' D' x → Q vs H'
/-- arguments, then k -/
def tAr {τ γ : Type} (K : Fr) (mg : Str → Option Value) (G : Ctx) (Γ : Vw) (B : Ap τ) (k : τ → M γ) (r : M γ) : TA := fun σ H Q =>
  ∃ H0 D0 D os x, ∃ P : Hp → Hp → Rs γ → Prop, Rel K H0 D0 Γ σ H D os ∧ r = some x ∧ P H D x ∧ (∀ H1 D1, Ext H D H1 D1 → ∀ H2 D2, Ext H1 D1 H2 D2 → P H1 D1 x → P H2 D2 x) ∧
    (∀ e, x = .ex e → ∀ c d H' D' os', Rel K H0 D0 G.Vx σ H' D' os' → XRep K mg D' e c d → G.W c d σ H') ∧ aPost K B k H D x P Q
def AR (X : Cx) (G : Ctx) (Γ : Vw) (es : List Expr) {τ γ : Type} (B : Ap τ) (k : τ → M γ) (r : M γ) : Prop := Wf X G → PA X es (tAr X.K X.mg G Γ B k r)
section
variable {X : Cx} {G : Ctx} {Γ : Vw} {α β γ δ τ ρ : Type} {a b c : Expr} {pos : Pos} {es : List Expr}
theorem A_nil {k : Unit → M γ} : AR X G Γ [] .nil k (k ()) := fun w =>
  pa_nil.weak fun σ H Q ⟨H0, D0, D, os, x, P, hr, hx, hp, hg, he, q⟩ => q () [] H D hx (Ext.refl hr.le) rfl hp
theorem A_cons {A : Dt α} {B : Ap τ} {k : α × τ → M γ} {ra : M α} {rr : α → M γ} (ha : ET X G Γ a (dat A) ra) (hb : ∀ x, AR X G Γ es B (fun t => k (x, t)) (rr x))
    (hs : starEach (a :: es) X.env = (false, eval a X.env) :: starEach es X.env := by rfl) : AR X G Γ (a :: es) (.cons A B) k (ra.bind rr) := fun w => by
  have hb' : PA X es (fun σ H Q => ∃ x, tAr X.K X.mg G Γ B (fun t => k (x, t)) (rr x) σ H Q) := ⟨fun pos pins s σ H Q I ⟨x, h⟩ => (hb x w).run pos pins s σ H Q I h⟩
  refine (pa_cons (ha w) hb' hs).weak fun σ H Q ⟨H0, D0, D, os, x, P, hr, hx, hp, hg, he, q⟩ => ?_
  rcases bind_some hx with ⟨y, rfl, hf⟩ | ⟨e, rfl, rfl⟩
  · refine ⟨H0, D0, D, os, hr, _, rfl, fun v H1 D1 fp e1 r1 f1 => ⟨y, H0, D0, D1, os, x, P, hr.grow e1, hf, hg _ _ (Ext.refl hr.le) _ _ e1 hp, fun H2 D2 e2 => hg H2 D2 (e1.trans e2), he, fun t vs H' D' hk e2 ht p2 => ?_⟩⟩
    exact q (y, t) (v :: vs) H' D' hk (e1.trans e2) ⟨v, vs, rfl, A.mono e2.d r1.2, ht⟩ p2
  · exact ⟨H0, D0, D, os, hr, _, rfl, he _ rfl⟩
/-! ### calls of defs -/
def spT (K : Fr) (mg : Str → Option Value) (B : Ap τ) (R : Rp ρ) (m : τ → M ρ) : Sp := fun vs H Q E => ∃ D t, Le D H ∧ B.rep K D t vs ∧ ∃ x, m t = some x ∧ match x with
  | .ok r => ∀ v H' D' fp, Ext H D H' D' → R.rep K H' D' fp r v → Frs H D' H' fp → Q v H'
  | .ex e => ∀ c d H' D', Ext H D H' D' → XRep K mg D' e c d → E c d H'
structure Fx (P : Program) (w : World) (K : Fr) (mg : Str → Option Value) (base : Heap) (x : Str) (k : Nat) (B : Ap τ) (R : Rp ρ) (m : τ → M ρ) : Prop where
  ex : ∃ f fd ps, FnOk P w K mg base (L2.CX P w) k f fd ps (spT K mg B R m) ∧ mg x = some (.ref f) ∧ PySem.W.keepIn K (.ref f) = true ∧ Binds K fd ps []
theorem E_call {x : Str} {k : Nat} {B : Ap τ} {R : Rp ρ} {m : τ → M ρ} {r : M ρ} {p : Pos} (F : Fx X.prog X.w X.K X.mg X.base x k B R m) (hk : k ≤ G.k) (ha : AR X G Γ (a :: es) B m r) (is : List Nat) (hv : pick is Γ = G.Vx) (hc : G.c = true := by rfl) (hg : Gl X x := by rfl)
    (hdb : (x == ("__debug__" : Str)) = false := by decide) (he : starEach (a :: es) X.env = (false, eval a X.env) :: starEach es X.env := by rfl) (hpl : (backTo pos (starEach es X.env)).any (·.1) = false := by rfl) :
    ET X G Γ (.Call (.Name x p) (a :: es) [] pos) R r := fun w => by
  obtain ⟨f, fd, ps, F, hm, hkp, hb⟩ := F.ex
  refine (pe_callS F ((w.room hc).mono hk) hg hm hkp hb (fun σ => passAt w.tk σ) (ha w) hdb he hpl).weak fun σ H Q ⟨H0, D0, D, os, hr, x, hx, hp⟩ => ?_
  refine ⟨H0, D0, D, os, x, fun H1 D1 x => ePost X.K X.mg G H0 D0 σ H1 D1 R Q x, hr, hx, hp, fun _ _ _ _ _ e2 h => h.grow e2, fun e z => by subst z; exact hp, fun t vs H1 D1 hk e1 ht hp1 => ?_⟩
  refine ⟨D1, t, e1.dh, ht, x, hk, ?_⟩
  cases x with
  | ok y => exact hp1
  | ex e =>
    intro c d H' D' e2 hxr
    obtain ⟨os', q⟩ := ((hr.grow e1).grow e2).pick is
    rw [hv] at q
    exact hp1 c d H' D' os' q hxr
/-! ### built-ins with one or two arguments -/
def Cb1 (K : Fr) (r : List L2.V → Hp → VK → Prop) (A : Rp α) (R : Rp β) (g : α → M β) : Prop :=
  ∀ (H D : Hp) a va fa c Q, Le D H → A.rep K H D fa a va → g a = ok c → (∀ v H' D' fp, Ext H D H' D' → R.rep K H' D' fp c v → Frs H D' H' fp → Q v H') → r [va] H Q
def NX1 {α β : Type} (g : α → M β) : Prop := ∀ a e, g a ≠ exc e
theorem cb_core {A : Rp α} {R : Rp β} {g : α → M β} {ra : M α} {rr : List L2.V → Hp → VK → Prop} (hs : Cb1 X.K rr A R g) (nx : NX1 g) (σ : L2.St) (H : Hp) (Q : VK) (h : tE X.K X.mg G Γ R (ra.bind g) σ H Q) :
    tCB rr (tCons (tE X.K X.mg G Γ A ra) tNil) σ H Q := by
  obtain ⟨H0, D0, D, os, hr, x, hx, hp⟩ := h
  exact seqEE hr hx hp fun i H1 D1 fp v _ hx1 e1 r1 f1 hr1 hp1 => by
    cases x with
    | ok c => exact hs H1 D1 i v fp c Q hr1.le r1 hx1 hp1
    | ex e => exact absurd hx1 (nx _ _)
theorem E_bi1 {id : String} {x : Str} {rr : List L2.V → Hp → VK → Prop} {A : Rp α} {R : Rp β} {g : α → M β} {ra : M α} {p : Pos} (hc : CallR X (.builtin id) rr) (hs : Cb1 X.K rr A R g) (nx : NX1 g) (hm : X.mg x = none) (hv : bootBuiltins x = some (.builtin id))
    (ha : ET X G Γ a A ra) (hg : Gl X x := by rfl) (hn : x ≠ "__name__" := by decide) (hdb : (x == ("__debug__" : Str)) = false := by decide) (hs1 : starEach [a] X.env = [(false, eval a X.env)] := by rfl) (hpl : (backTo pos (starEach [] X.env)).any (·.1) = false := by rfl) :
    ET X G Γ (.Call (.Name x p) [a] [] pos) R (ra.bind g) := fun w =>
  (pe_callB hc hg hm hv (pa_cons (ha w) pa_nil hs1) hn hdb hs1 hpl).weak fun σ H Q h => cb_core hs nx σ H Q h
theorem E_ty1 {id : String} {x : Str} {rr : List L2.V → Hp → VK → Prop} {A : Rp α} {R : Rp β} {g : α → M β} {ra : M α} {p : Pos} (hc : CallR X (.type id) rr) (hs : Cb1 X.K rr A R g) (nx : NX1 g) (hm : X.mg x = none) (hv : bootBuiltins x = some (.type id))
    (ha : ET X G Γ a A ra) (hg : Gl X x := by rfl) (hn : x ≠ "__name__" := by decide) (hdb : (x == ("__debug__" : Str)) = false := by decide) (hs1 : starEach [a] X.env = [(false, eval a X.env)] := by rfl) (hpl : (backTo pos (starEach [] X.env)).any (·.1) = false := by rfl) :
    ET X G Γ (.Call (.Name x p) [a] [] pos) R (ra.bind g) := fun w =>
  (pe_callTy hc hg hm hv (pa_cons (ha w) pa_nil hs1) hn hdb hs1 hpl).weak fun σ H Q h => cb_core hs nx σ H Q h
def Cb2 (K : Fr) (r : List L2.V → Hp → VK → Prop) (A : Rp α) (B : Rp β) (R : Rp γ) (g : α → β → M γ) : Prop :=
  ∀ (H D : Hp) a b va vb fa fb c Q, Le D H → A.rep K H D fa a va → B.rep K H D fb b vb → g a b = ok c → (∀ v H' D' fp, Ext H D H' D' → R.rep K H' D' fp c v → Frs H D' H' fp → Q v H') → r [va, vb] H Q
theorem E_bi2 {id : String} {x : Str} {rr : List L2.V → Hp → VK → Prop} {A : Rp α} {B : Rp β} {R : Rp γ} {g : α → β → M γ} {ra : M α} {rb : M β} {p : Pos} (hc : CallR X (.builtin id) rr) (hs : Cb2 X.K rr A B R g) (nx : NX2 g) (hm : X.mg x = none) (hv : bootBuiltins x = some (.builtin id))
    (ha : ET X G Γ a A ra) (hb : ET X G Γ b B rb) (hg : Gl X x := by rfl) (hn : x ≠ "__name__" := by decide) (hdb : (x == ("__debug__" : Str)) = false := by decide)
    (hs1 : starEach [a, b] X.env = (false, eval a X.env) :: starEach [b] X.env := by rfl) (hs2 : starEach [b] X.env = [(false, eval b X.env)] := by rfl) (hpl : (backTo pos (starEach [b] X.env)).any (·.1) = false := by rfl) :
    ET X G Γ (.Call (.Name x p) [a, b] [] pos) R (ra.bind fun y => rb.bind fun z => g y z) := fun w =>
  (pe_callB hc hg hm hv (pa_cons (ha w) (pa_cons (hb w) pa_nil hs2) hs1) hn hdb hs1 hpl).weak fun σ H Q ⟨H0, D0, D, os, hr, x, hx, hp⟩ =>
    seqEE hr hx hp fun i H1 D1 fp v _ hx1 e1 r1 f1 hr1 hp1 => seqEE hr1 hx1 hp1 fun j H2 D2 fp2 v2 _ hx2 e2 r2 f2 hr2 hp2 => by
      cases x with
      | ok c => exact hs H2 D2 i j v v2 fp fp2 c Q hr2.le (A.mono e2.h e2.d r1) r2 hx2 hp2
      | ex e => exact absurd hx2 (nx _ _ _)
theorem nxok {g : α → β} : NX1 fun a => ok (g a) := fun _ _ z => nomatch z
theorem nxok2 {g : α → β → γ} : NX2 fun a b => ok (g a b) := fun _ _ _ z => nomatch z
theorem E_abs {ra : M Int} {p : Pos} (hm : X.mg "abs" = none) (ha : ET X G Γ a (dat tInt) ra) (hg : Gl X "abs" := by rfl) (hs1 : starEach [a] X.env = [(false, eval a X.env)] := by rfl) :
    ET X G Γ (.Call (.Name "abs" p) [a] [] pos) (dat tInt) (ra.bind fun x => ok (x.natAbs : Int)) :=
  E_bi1 (A := dat tInt) (R := dat tInt) call_abs (fun H D a va fa c Q le ⟨_, z⟩ hg k => by
    cases hg
    cases (show va = V.int a from z)
    refine ⟨a, rfl, k _ H D [] (Ext.refl le) ⟨rfl, show V.int _ = V.int _ from ?_⟩ .nil⟩
    congr 1
    split <;> omega) nxok hm (by decide +kernel) ha hg (by decide) (by decide) hs1 rfl
theorem E_max2 {ra rb : M Int} {p : Pos} (hm : X.mg "max" = none) (hcl : X.calm = true) (ha : ET X G Γ a (dat tInt) ra) (hb : ET X G Γ b (dat tInt) rb) (hg : Gl X "max" := by rfl) (hs1 : starEach [a, b] X.env = (false, eval a X.env) :: starEach [b] X.env := by rfl) (hs2 : starEach [b] X.env = [(false, eval b X.env)] := by rfl)
    (hpl : (backTo pos (starEach [b] X.env)).any (·.1) = false := by rfl) :
    ET X G Γ (.Call (.Name "max" p) [a, b] [] pos) (dat tInt) (ra.bind fun x => rb.bind fun y => ok (max x y)) :=
  E_bi2 (A := dat tInt) (B := dat tInt) (R := dat tInt) (call_max2 hcl) (fun H D a b va vb fa fb c Q le ⟨_, z1⟩ ⟨_, z2⟩ hg k => by
    cases hg
    cases (show va = V.int a from z1)
    cases (show vb = V.int b from z2)
    refine ⟨a, b, rfl, k _ H D [] (Ext.refl le) ⟨rfl, show V.int _ = V.int _ from ?_⟩ .nil⟩
    congr 1
    split <;> omega) nxok2 hm (by decide +kernel) ha hb hg (by decide) (by decide) hs1 hs2 hpl
def b2n (b : Bool) : Int := if b = true then 1 else 0
theorem Paired.len {α β : Type} {F : α → β → Prop} : ∀ {xs : List α} {ys : List β}, Paired F xs ys → xs.length = ys.length := fun h => Paired.length h
theorem cb_len {A : Dt α} : Cb1 X.K (fun xs H Q => ∃ p ys, xs = [.ref p] ∧ (SqL X.K H p ys ∨ SqT X.K H p ys) ∧ Q (.int ys.length) H) (bor A) (dat tInt) fun xs : List α => ok (xs.length : Int) := fun H D a va fa c Q le ⟨_, p, vs, z, h1, h2⟩ hg k => by
    cases hg
    refine ⟨p, vs, by rw [z], .inl h1, k _ H D [] (Ext.refl le) ⟨rfl, show V.int _ = V.int _ from by rw [h2.length]⟩ .nil⟩
theorem E_lenL {A : Dt α} {ra : M (List α)} {p : Pos} (hm : X.mg "len" = none) (ha : ET X G Γ a (bor A) ra) (hg : Gl X "len" := by rfl) (hs1 : starEach [a] X.env = [(false, eval a X.env)] := by rfl) :
    ET X G Γ (.Call (.Name "len" p) [a] [] pos) (dat tInt) (ra.bind fun x => ok (x.length : Int)) := E_bi1 call_len_seq cb_len nxok hm PySem.boot_len ha hg (by decide) (by decide) hs1 rfl
theorem E_lenT {A : Dt α} {ra : M (List α)} {p : Pos} (hm : X.mg "len" = none) (ha : ET X G Γ a (dat (tRow A)) ra) (hg : Gl X "len" := by rfl) (hs1 : starEach [a] X.env = [(false, eval a X.env)] := by rfl) :
    ET X G Γ (.Call (.Name "len" p) [a] [] pos) (dat tInt) (ra.bind fun x => ok (x.length : Int)) := E_bi1 (A := dat (tRow A)) (R := dat tInt) call_len_seq (fun H D a va fa c Q le ⟨_, p, vs, z, h1, h2⟩ hg k => by
    cases hg
    refine ⟨p, vs, by rw [z], .inr (SqT.mono le h1), k _ H D [] (Ext.refl le) ⟨rfl, show V.int _ = V.int _ from by rw [h2.length]⟩ .nil⟩) nxok hm PySem.boot_len ha hg (by decide) (by decide) hs1 rfl
/-! ### subscripts -/
def pget {α : Type} (xs : List α) (i : Int) : M α := match atI xs i with
  | some x => ok x
  | none => stuck
theorem pget_ok {xs : List α} {i : Int} {x : α} (h : pget xs i = ok x) : atI xs i = some x := by
  unfold pget at h
  cases e : atI xs i with
  | none => rw [e] at h; cases h
  | some y => rw [e] at h; cases h; rfl
theorem pget_nx {α : Type} : NX2 (pget (α := α)) := fun xs i e h => by
  unfold pget at h
  cases z : atI xs i with
  | none => rw [z] at h; cases h
  | some y => rw [z] at h; cases h
theorem atI_paired {F : α → L2.V → Prop} {xs : List α} {vs : List L2.V} {i : Int} {x : α} (h : Paired F xs vs) (e : atI xs i = some x) : ∃ v, atI vs i = some v ∧ F x v := by
  unfold atI at e ⊢
  rw [h.length] at e
  cases q : ixN vs.length i with
  | none => rw [q] at e; cases e
  | some j =>
    rw [q] at e
    have e' : xs[j]? = some x := e
    show ∃ v, vs[j]? = some v ∧ F x v
    clear e q
    induction h generalizing j with
    | nil => simp at e'
    | cons r t ih =>
      cases j with
      | zero => simp at e'; subst e'; exact ⟨_, by simp, r⟩
      | succ j => simpa using ih j (by simpa using e')
theorem E_ix {r2 : R2} {A : Rp α} {B : Rp β} {R : Rp γ} {g : α → β → M γ} {ra : M α} {rb : M β} (hi : IxR X r2) (hs : Op2 X.K r2 A B R g) (nx : NX2 g) (ha : ET X G Γ a A ra) (hb : ET X G Γ b B rb) (hp : PlainIx b) : ET X G Γ (.Subscript a b pos) R (ra.bind fun x => rb.bind fun y => g x y) := fun w =>
  (pe_ix hi (ha w) (hb w) hp).weak fun σ H Q ⟨H0, D0, D, os, hr, x, hx, hp⟩ =>
    seqEE hr hx hp fun i H1 D1 fp v _ hx1 e1 r1 f1 hr1 hp1 => seqEE hr1 hx1 hp1 fun j H2 D2 fp2 v2 _ hx2 e2 r2 f2 hr2 hp2 => by
      cases x with
      | ok c => exact hs H2 D2 i j v v2 fp fp2 c Q hr2.le (A.mono e2.h e2.d r1) r2 hx2 hp2
      | ex e => exact absurd hx2 (nx _ _ _)
theorem E_ixL {A : Dt α} {ra : M (List α)} {rb : M Int} (ha : ET X G Γ a (bor A) ra) (hb : ET X G Γ b (dat tInt) rb) (hp : PlainIx b := by intro _ _; rfl) : ET X G Γ (.Subscript a b pos) (dat A) (ra.bind fun x => rb.bind fun y => pget x y) :=
  E_ix (A := bor A) (B := dat tInt) (R := dat A) ix_list (fun H D xs i va vb fa fb c Q le ⟨_, p, vs, z, h1, h2⟩ ⟨_, z2⟩ hg k => by
    obtain ⟨v, q1, q2⟩ := atI_paired h2 (pget_ok hg)
    exact ⟨p, vs, i, v, z, z2, h1, q1, k v H D [] (Ext.refl le) ⟨rfl, q2⟩ .nil⟩) pget_nx ha hb hp
theorem E_ixT {A : Dt α} {ra : M (List α)} {rb : M Int} (ha : ET X G Γ a (dat (tRow A)) ra) (hb : ET X G Γ b (dat tInt) rb) (hp : PlainIx b := by intro _ _; rfl) : ET X G Γ (.Subscript a b pos) (dat A) (ra.bind fun x => rb.bind fun y => pget x y) :=
  E_ix (A := dat (tRow A)) (B := dat tInt) (R := dat A) ix_tup (fun H D xs i va vb fa fb c Q le ⟨_, p, vs, z, h1, h2⟩ ⟨_, z2⟩ hg k => by
    obtain ⟨v, q1, q2⟩ := atI_paired h2 (pget_ok hg)
    exact ⟨p, vs, i, v, z, z2, SqT.mono le h1, q1, k v H D [] (Ext.refl le) ⟨rfl, q2⟩ .nil⟩) pget_nx ha hb hp
/-- a record's places -/
theorem E_fst {A : Dt α} {B : Dt β} {ra : M (α × β)} (ha : ET X G Γ a (dat (tRec2 A B)) ra) (hb : ET X G Γ b (dat tInt) (ok 0)) (hp : PlainIx b := by intro _ _; rfl) : ET X G Γ (.Subscript a b pos) (dat A) (ra.bind fun x => ok x.1) :=
  E_ix (A := dat (tRec2 A B)) (R := dat A) (g := fun x (_ : Int) => ok x.1) (B := ⟨fun _ _ _ fp x v => fp = [] ∧ x = 0 ∧ v = .int 0, fun _ _ h => h⟩) ix_tup (fun H D xs i va vb fa fb c Q le ⟨_, p, v1, v2, z, h1, h2, h3⟩ ⟨_, _, z2⟩ hg k => by
    cases hg
    exact ⟨p, _, 0, v1, z, z2, SqT.mono le h1, rfl, k v1 H D [] (Ext.refl le) ⟨rfl, h2⟩ .nil⟩) nxok2 ha (fun w => (hb w).weak fun σ H Q ⟨H0, D0, D, os, hr, x, hx, hp⟩ => ⟨H0, D0, D, os, hr, x, hx, by
      cases hx
      exact fun v H' D' fp e ⟨h1, h2⟩ f => hp v H' D' fp e ⟨h1, rfl, h2⟩ f⟩) hp
theorem E_snd {A : Dt α} {B : Dt β} {ra : M (α × β)} (ha : ET X G Γ a (dat (tRec2 A B)) ra) (hb : ET X G Γ b (dat tInt) (ok 1)) (hp : PlainIx b := by intro _ _; rfl) : ET X G Γ (.Subscript a b pos) (dat B) (ra.bind fun x => ok x.2) :=
  E_ix (A := dat (tRec2 A B)) (R := dat B) (g := fun x (_ : Int) => ok x.2) (B := ⟨fun _ _ _ fp x v => fp = [] ∧ x = 1 ∧ v = .int 1, fun _ _ h => h⟩) ix_tup (fun H D xs i va vb fa fb c Q le ⟨_, p, v1, v2, z, h1, h2, h3⟩ ⟨_, _, z2⟩ hg k => by
    cases hg
    exact ⟨p, _, 1, v2, z, z2, SqT.mono le h1, rfl, k v2 H D [] (Ext.refl le) ⟨rfl, h3⟩ .nil⟩) nxok2 ha (fun w => (hb w).weak fun σ H Q ⟨H0, D0, D, os, hr, x, hx, hp⟩ => ⟨H0, D0, D, os, hr, x, hx, by
      cases hx
      exact fun v H' D' fp e ⟨h1, h2⟩ f => hp v H' D' fp e ⟨h1, rfl, h2⟩ f⟩) hp
/-! ### displays -/
theorem Same.upd {H : Hp} {p : Addr} {o : HO} (n : H p = none) : Le H (upd H p o) := fun b x e => by rw [upd_ne (ne_of_none e n)]; exact e
/-- items of one type, from the left -/
def tAs {α γ : Type} (K : Fr) (mg : Str → Option Value) (G : Ctx) (Γ : Vw) (A : Dt α) (k : List α → M γ) (r : M γ) : TA := fun σ H Q =>
  ∃ H0 D0 D os x, ∃ P : Hp → Hp → Rs γ → Prop, Rel K H0 D0 Γ σ H D os ∧ r = some x ∧ P H D x ∧ (∀ H1 D1, Ext H D H1 D1 → ∀ H2 D2, Ext H1 D1 H2 D2 → P H1 D1 x → P H2 D2 x) ∧
    (∀ e, x = .ex e → ∀ c d H' D' os', Rel K H0 D0 G.Vx σ H' D' os' → XRep K mg D' e c d → G.W c d σ H') ∧
    ∀ t vs H' D', k t = some x → Ext H D H' D' → Paired (A.rep K D') t vs → P H' D' x → Q vs H'
def IR (X : Cx) (G : Ctx) (Γ : Vw) (es : List Expr) {α γ : Type} (A : Dt α) (k : List α → M γ) (r : M γ) : Prop := Wf X G → PA X es (tAs X.K X.mg G Γ A k r)
theorem I_nil {A : Dt α} {k : List α → M γ} : IR X G Γ [] A k (k []) := fun w =>
  pa_nil.weak fun σ H Q ⟨H0, D0, D, os, x, P, hr, hx, hp, hg, he, q⟩ => q [] [] H D hx (Ext.refl hr.le) .nil hp
theorem I_cons {A : Dt α} {k : List α → M γ} {ra : M α} {rr : α → M γ} (ha : ET X G Γ a (dat A) ra) (hb : ∀ x, IR X G Γ es A (fun t => k (x :: t)) (rr x))
    (hs : starEach (a :: es) X.env = (false, eval a X.env) :: starEach es X.env := by rfl) : IR X G Γ (a :: es) A k (ra.bind rr) := fun w => by
  have hb' : PA X es (fun σ H Q => ∃ x, tAs X.K X.mg G Γ A (fun t => k (x :: t)) (rr x) σ H Q) := ⟨fun pos pins s σ H Q I ⟨x, h⟩ => (hb x w).run pos pins s σ H Q I h⟩
  refine (pa_cons (ha w) hb' hs).weak fun σ H Q ⟨H0, D0, D, os, x, P, hr, hx, hp, hg, he, q⟩ => ?_
  rcases bind_some hx with ⟨y, rfl, hf⟩ | ⟨e, rfl, rfl⟩
  · refine ⟨H0, D0, D, os, hr, _, rfl, fun v H1 D1 fp e1 r1 f1 => ⟨y, H0, D0, D1, os, x, P, hr.grow e1, hf, hg _ _ (Ext.refl hr.le) _ _ e1 hp, fun H2 D2 e2 => hg H2 D2 (e1.trans e2), he, fun t vs H' D' hk e2 ht p2 => ?_⟩⟩
    exact q (y :: t) (v :: vs) H' D' hk (e1.trans e2) (.cons (A.mono e2.d r1.2) ht) p2
  · exact ⟨H0, D0, D, os, hr, _, rfl, he _ rfl⟩
def psz {α : Type} (xs : List α) : M (List α) := grd (xs.length ≤ sizeLine) (ok xs)
theorem E_lst {A : Dt α} {r : M (List α)} (h : IR X G Γ es A psz r) : ET X G Γ (.List es pos) (own A) r := fun w =>
  (pe_lst (h w)).weak fun σ H Q ⟨H0, D0, D, os, hr, x, hx, hp⟩ =>
    ⟨H0, D0, D, os, x, fun H1 D1 x => ePost X.K X.mg G H0 D0 σ H1 D1 (own A) Q x, hr, hx, hp, fun _ _ _ _ _ e2 h => h.grow e2, fun e z => by subst z; exact hp, fun t vs H1 D1 hk e1 ht hp1 => by
      cases x with
      | ex e => exact absurd hk (grd_nx (fun z => nomatch z))
      | ok y =>
        obtain ⟨h1, h2⟩ := grd_ok hk
        cases h2
        refine ⟨by rw [← ht.length]; exact h1, fun p np => ?_⟩
        have nd : D1 p = none := e1.dh.free np
        exact hp1 (.ref p) _ D1 [p] (Ext.fresh e1.dh np) ⟨p, vs, rfl, rfl, upd_same, ht⟩ ⟨by simp, fun q hq => by
          have : q = p := by simpa using hq
          subst this
          exact ⟨np, nd, by rw [upd_same]; simp⟩⟩⟩
theorem E_rec2 {A : Dt α} {B : Dt β} {r : M (α × β)} {x1} (h : AR X G Γ es (.cons A (.cons B .nil)) (fun t => ok (t.1, t.2.1)) r) : ET X G Γ (.Tuple es x1 pos) (dat (tRec2 A B)) r := fun w =>
  (pe_tup (h w)).weak fun σ H Q ⟨H0, D0, D, os, hr, x, hx, hp⟩ =>
    ⟨H0, D0, D, os, x, fun H1 D1 x => ePost X.K X.mg G H0 D0 σ H1 D1 (dat (tRec2 A B)) Q x, hr, hx, hp, fun _ _ _ _ _ e2 h => h.grow e2, fun e z => by subst z; exact hp, fun t vs H1 D1 hk e1 ht hp1 => by
      cases hk
      obtain ⟨v1, r1, rfl, t1, v2, r2, rfl, t2, e0⟩ := ht
      cases (show r2 = [] from e0)
      refine ⟨(by decide : 2 ≤ sizeLine), fun p np => ?_⟩
      have nd : D1 p = none := e1.dh.free np
      exact hp1 (.ref p) _ _ [] (Ext.laid e1.dh np) ⟨rfl, p, v1, v2, rfl, .inl (.inl upd_same), A.mono (Same.upd nd) t1, B.mono (Same.upd nd) t2⟩ .nil⟩
end
end T
set_option maxRecDepth 100000
set_option maxHeartbeats 4000000
namespace T
open PySem PySem.Spec PyProof.Rows L2
/-! ### statements -/
inductive Dest (ρ : Type) where
  | nx (Γ : Vw) | rt (a : ρ) | bk (Γ : Vw) | ct (Γ : Vw)
inductive Fl (C ρ : Type) where
  | nx (c : C) | rt (a : ρ)
def ZF {C ρ : Type} (Γ : C → Vw) : Fl C ρ → Dest ρ
  | .nx c => .nx (Γ c)
  | .rt a => .rt a
def dPost {ρ : Type} (K : Fr) (H0 D0 : Hp) (R : Rp ρ) (D : Ends) : Dest ρ → Prop
  | .nx Γ => ∀ σ' H' D' os', Rel K H0 D0 Γ σ' H' D' os' → D.nx σ' H'
  | .bk Γ => ∀ σ' H' D' os', Rel K H0 D0 Γ σ' H' D' os' → D.bk σ' H'
  | .ct Γ => ∀ σ' H' D' os', Rel K H0 D0 Γ σ' H' D' os' → D.ct σ' H'
  | .rt a => ∀ v H' D' fp, Ext H0 D0 H' D' → R.rep K H' D' fp a v → Frs H0 D' H' fp → D.rt v H'
def jPost {θ ρ : Type} (K : Fr) (mg : Str → Option Value) (G : Ctx) (H0 D0 : Hp) (R : Rp ρ) (Z : θ → Dest ρ) (D : Ends) : Rs θ → Prop
  | .ok t => dPost K H0 D0 R D (Z t)
  | .ex e => ∀ c d σ' H' D' os', Rel K H0 D0 G.Vx σ' H' D' os' → XRep K mg D' e c d → G.W c d σ' H'
theorem jPost.ok {θ ρ : Type} {K : Fr} {mg : Str → Option Value} {G : Ctx} {H0 D0 : Hp} {R : Rp ρ} {Z : θ → Dest ρ} {D : Ends} {t : θ} {z : Dest ρ} (h : jPost K mg G H0 D0 R Z D (.ok t)) (e : Z t = z) : dPost K H0 D0 R D z := e ▸ h
theorem jPost.of {θ ρ : Type} {K : Fr} {mg : Str → Option Value} {G : Ctx} {H0 D0 : Hp} {R : Rp ρ} {Z : θ → Dest ρ} {D : Ends} {t : θ} {z : Dest ρ} (e : Z t = z) (h : dPost K H0 D0 R D z) : jPost K mg G H0 D0 R Z D (.ok t) := by subst e; exact h
def tJ {θ ρ : Type} (K : Fr) (mg : Str → Option Value) (G : Ctx) (Γ : Vw) (R : Rp ρ) (Z : θ → Dest ρ) (r : M θ) : TS := fun E σ H =>
  ∃ H0 D0 D os, Rel K H0 D0 Γ σ H D os ∧ ∃ x, r = some x ∧ jPost K mg G H0 D0 R Z E x
def JB {θ ρ : Type} (X : Cx) (G : Ctx) (Γ : Vw) (b : List Stmt) (R : Rp ρ) (Z : θ → Dest ρ) (r : M θ) : Prop := Wf X G → PSs X b (tJ X.K X.mg G Γ R Z r)
def JS {θ ρ : Type} (X : Cx) (G : Ctx) (Γ : Vw) (b : Stmt) (R : Rp ρ) (Z : θ → Dest ρ) (r : M θ) : Prop := Wf X G → PS X b (tJ X.K X.mg G Γ R Z r)
theorem _root_.L2.PS.weakI {X : Cx} {e : Stmt} {t t' : TS} (h : PS X e t) (w : ∀ D σ H, σ.length = X.N.length → t' D σ H → t D σ H) : PS X e t' := ⟨fun pins s σ H D I hq => h.run pins s σ H D I (w _ _ _ I.len hq)⟩
section
variable {K : Fr} {mg : Str → Option Value} {G : Ctx} {H0 D0 H D H1 D1 : Hp} {Γ : Vw} {σ : L2.St} {os : List Addr} {α : Type}
theorem Rel.rebase (r : Rel K H0 D0 Γ σ H D os) : Rel K H0 D Γ σ H D os := ⟨⟨r.ext.h, Same.refl _, r.ext.dh, fun _ h _ => h⟩, r.own, r.nd, r.hold⟩
theorem Rel.unbase {Di : Hp} (d : Le D0 Di) (o : ∀ p, D0 p = none → H0 p ≠ none → Di p = none) (r : Rel K H0 Di Γ σ H D os) : Rel K H0 D0 Γ σ H D os :=
  ⟨⟨r.ext.h, d.trans r.ext.d, r.ext.dh, fun p h1 h2 => r.ext.out p (o p h1 h2) h2⟩, r.own, r.nd, r.hold⟩
theorem jPost.rebase {θ ρ : Type} {R : Rp ρ} {Z : θ → Dest ρ} {E : Ends} {x : Rs θ} {Di : Hp} (d : Le D0 Di) (o : ∀ p, D0 p = none → H0 p ≠ none → Di p = none) (h : jPost K mg G H0 D0 R Z E x) : jPost K mg G H0 Di R Z E x := by
  cases x with
  | ex e => exact fun c d' σ' H' D' os' r => h c d' σ' H' D' os' (r.unbase d o)
  | ok t =>
    have h := h.ok rfl
    refine jPost.of rfl ?_
    cases z : Z t with
    | nx Γ => rw [z] at h; exact fun σ' H' D' os' r => h σ' H' D' os' (r.unbase d o)
    | bk Γ => rw [z] at h; exact fun σ' H' D' os' r => h σ' H' D' os' (r.unbase d o)
    | ct Γ => rw [z] at h; exact fun σ' H' D' os' r => h σ' H' D' os' (r.unbase d o)
    | rt a => rw [z] at h; exact fun v H' D' fp e => h v H' D' fp ⟨e.h, d.trans e.d, e.dh, fun p h1 h2 => e.out p (o p h1 h2) h2⟩
/-- an entry is put -/
theorem Rel.put (r : Rel K H0 D0 Γ σ H D os) {i : Nat} {R : Rp α} {st : Stable R} {a : α} {v : L2.V} {fp : List Addr} {Hb : Hp} (hi : i < σ.length) (hl : Le H0 Hb) (hne : ∀ p ∈ os, Hb p ≠ none) (h : R.rep K H D fp a v) (f : Frs Hb D H fp) :
    ∃ os', Rel K H0 D0 (T.put ⟨i, α, R, st, a⟩ Γ) (σ.set i (some v)) H D os' := by
  obtain ⟨os', q1, q2, q3⟩ := r.hold.rmv i r.nd
  refine ⟨fp ++ os', r.ext, fun p hp => ?_, List.nodup_append.mpr ⟨f.1, q2, fun a ha b hb e => ?_⟩, ⟨fp, os', rfl, ⟨v, ?_, h⟩, q1.set⟩⟩
  · rcases List.mem_append.mp hp with z | z
    · exact ⟨hl.free (f.2 p z).1, (f.2 p z).2⟩
    · exact r.own p (q3 p z)
  · subst e; exact hne a (q3 a hb) (f.2 a ha).1
  · show (σ.set i (some v))[i]? = _
    rw [List.getElem?_set_self hi]
end
section
variable {X : Cx} {G : Ctx} {Γ : Vw} {α β γ δ τ ρ θ C C' : Type} {a b c e : Expr} {pos : Pos} {st : Stmt} {rest A B : List Stmt} {R : Rp ρ} {Z : θ → Dest ρ}
theorem J_nil (is : List Nat) (t : θ) (hz : Z t = .nx (pick is Γ) := by rfl) : JB X G Γ [] R Z (ok t) := fun w =>
  pss_nil.weak fun E σ H ⟨H0, D0, D, os, hr, x, hx, hp⟩ => by
    cases hx
    have hp := hp.ok hz
    obtain ⟨os', q⟩ := hr.pick is
    exact hp σ H D os' q
theorem J_last {r : M θ} (h : JS X G Γ st R Z r) : JB X G Γ [st] R Z r := fun w => pss_one (h w)
theorem J_cons {Γ1 : C → Vw} {r1 : M C} {k : C → M θ} (h1 : JS X G Γ st R (fun c => .nx (Γ1 c)) r1) (h2 : ∀ c, JB X G (Γ1 c) rest R Z (k c)) : JB X G Γ (st :: rest) R Z (r1.bind k) := fun w => by
  have h2' : PSs X rest (fun E σ H => ∃ c, tJ X.K X.mg G (Γ1 c) R Z (k c) E σ H) := ⟨fun pins s σ H D I ⟨c, h⟩ => (h2 c w).run pins s σ H D I h⟩
  refine (pss_cons (h1 w) h2').weak fun E σ H ⟨H0, D0, D, os, hr, x, hx, hp⟩ => ?_
  rcases bind_some hx with ⟨c, rfl, hf⟩ | ⟨e, rfl, rfl⟩
  · exact ⟨H0, D0, D, os, hr, _, rfl, fun σ' H' D' os' r => ⟨c, H0, D0, D', os', r, x, hf, hp⟩⟩
  · exact ⟨H0, D0, D, os, hr, _, rfl, hp⟩
def sq {C ρ θ : Type} (r : M (Fl C ρ)) (k : C → M θ) (ι : ρ → θ) : M θ := r.bind fun f => match f with
  | .nx c => k c
  | .rt a => ok (ι a)
theorem J_fl {Γ1 : C → Vw} {r1 : M (Fl C ρ)} {k : C → M θ} (ι : ρ → θ) (h1 : JS X G Γ st R (ZF Γ1) r1) (h2 : ∀ c, JB X G (Γ1 c) rest R Z (k c)) (hι : ∀ a, Z (ι a) = .rt a := by intro _; rfl) : JB X G Γ (st :: rest) R Z (sq r1 k ι) := fun w => by
  have h2' : PSs X rest (fun E σ H => ∃ c, tJ X.K X.mg G (Γ1 c) R Z (k c) E σ H) := ⟨fun pins s σ H D I ⟨c, h⟩ => (h2 c w).run pins s σ H D I h⟩
  refine (pss_cons (h1 w) h2').weak fun E σ H ⟨H0, D0, D, os, hr, x, hx, hp⟩ => ?_
  rcases bind_some hx with ⟨c, rfl, hf⟩ | ⟨e, rfl, rfl⟩
  · cases c with
    | nx c => exact ⟨H0, D0, D, os, hr, _, rfl, fun σ' H' D' os' r => ⟨c, H0, D0, D', os', r, x, hf, hp⟩⟩
    | rt a =>
      cases (show ok (ι a) = some x from hf)
      have hp := hp.ok (hι _)
      exact ⟨H0, D0, D, os, hr, _, rfl, hp⟩
  · exact ⟨H0, D0, D, os, hr, _, rfl, hp⟩
theorem S_ret {re : M ρ} (ι : ρ → θ) (he : ET X G Γ e R re) (hι : ∀ a, Z (ι a) = .rt a := by intro _; rfl) : JS X G Γ (.Return (some e) pos) R Z (re.bind fun a => ok (ι a)) := fun w =>
  (ps_ret (he w)).weak fun E σ H ⟨H0, D0, D, os, hr, x, hx, hp⟩ => by
    rcases bind_some hx with ⟨c, rfl, hf⟩ | ⟨e, rfl, rfl⟩
    · cases hf
      have hp := hp.ok (hι _)
      exact ⟨H0, D0, D, os, hr, _, rfl, fun v H' D' fp e r f => hp v H' D' fp (hr.ext.trans e) r (f.back hr.ext.h)⟩
    · exact ⟨H0, D0, D, os, hr, _, rfl, fun c d H' D' os' r q => hp c d σ H' D' os' r q⟩
theorem S_retT {re : M ρ} (he : ET X G Γ e R re) : JS X G Γ (.Return (some e) pos) R (fun a => .rt a) re := by
  have := S_ret (Z := fun a => Dest.rt a) (pos := pos) (fun a => a) he
  rw [show (re.bind fun a => ok a) = re from bind_ret re] at this
  exact this
/-- a list of one's own is handed back -/
theorem S_retO (i : Nat) {x : Str} {A : Dt α} {val : List α} {Z : θ → Dest (List α)} {p : Pos} (ι : List α → θ) (hf : find i Γ = some (eO i A val) := by rfl) (hN : X.N[i]? = some x := by rfl) (hv : Vis X.env.scope x := by first | exact Or.inl rfl | exact Or.inr (Or.inl rfl) | exact Or.inr (Or.inr rfl))
    (hι : ∀ a, Z (ι a) = .rt a := by intro _; rfl) (hd : (x == ("__debug__" : Str)) = false := by decide) (hcd : (x == ("__classdict__" : Str)) = false := by decide) : JS X G Γ (.Return (some (.Name x p)) pos) (own A) Z (ok (ι val)) := fun w =>
  (ps_ret (pe_var hN hv hd hcd)).weak fun E σ H ⟨H0, D0, D, os, hr, x, hx, hp⟩ => by
    cases hx
    have hp := hp.ok (hι _)
    obtain ⟨fp, os', v, q1, q2, _, q4, q5⟩ := hr.hold.find hf hr.nd
    refine ⟨v, q1, hp v H D fp hr.ext q2 ⟨(List.nodup_append.mp q4).1, fun p h => hr.own p (q5 p (List.mem_append_left _ h))⟩⟩
theorem S_if {rc : M Bool} {ra rb : M θ} (hc : BT X G Γ c rc) (hA : JB X G Γ A R Z ra) (hB : JB X G Γ B R Z rb) : JS X G Γ (.If c A B pos) R Z (rc.bind fun b => if b = true then ra else rb) := fun w =>
  (ps_if (hc w) (hA w) (hB w)).weak fun E σ H ⟨H0, D0, D, os, hr, x, hx, hp⟩ => by
    refine seqB (P := fun _ _ x => jPost X.K X.mg G H0 D0 R Z E x) hr hx hp (fun e h => fun c d => h c d σ) (fun _ _ _ h => h) fun z H1 D1 _ hx1 e1 hr1 hp1 => ?_
    cases z with
    | true => exact ⟨H0, D0, D1, os, hr1, x, hx1, hp1⟩
    | false => exact ⟨H0, D0, D1, os, hr1, x, hx1, hp1⟩
/-- if c: .. return; then the rest -/
theorem J_ifr {rc : M Bool} {ra : M ρ} {rk : M θ} (ι : ρ → θ) (hc : BT X G Γ c rc) (hA : JB X G Γ A R (fun a => .rt a) ra) (hk : JB X G Γ rest R Z rk) (hι : ∀ a, Z (ι a) = .rt a := by intro _; rfl) :
    JB X G Γ (.If c A [] pos :: rest) R Z (rc.bind fun b => if b = true then ra.bind (fun a => ok (ι a)) else rk) := fun w =>
  (pss_cons (ps_if (hc w) (hA w) pss_nil) (hk w)).weak fun E σ H ⟨H0, D0, D, os, hr, x, hx, hp⟩ => by
    refine seqB (P := fun _ _ x => jPost X.K X.mg G H0 D0 R Z E x) hr hx hp (fun e h => fun c d => h c d σ) (fun _ _ _ h => h) fun z H1 D1 _ hx1 e1 hr1 hp1 => ?_
    cases z with
    | true =>
      have hx2 : ra.bind (fun a => ok (ι a)) = some x := hx1
      rcases bind_some hx2 with ⟨y, rfl, hf⟩ | ⟨e, rfl, rfl⟩
      · cases hf
        have hp1 := hp1.ok (hι _)
        exact ⟨H0, D0, D1, os, hr1, _, rfl, hp1⟩
      · exact ⟨H0, D0, D1, os, hr1, _, rfl, hp1⟩
    | false => exact ⟨H0, D0, D1, os, hr1, x, hx1, hp1⟩
theorem J_ifrT {rc : M Bool} {ra rk : M ρ} (hc : BT X G Γ c rc) (hA : JB X G Γ A R (fun a => .rt a) ra) (hk : JB X G Γ rest R (fun a => .rt a) rk) :
    JB X G Γ (.If c A [] pos :: rest) R (fun a => .rt a) (rc.bind fun b => if b = true then ra else rk) := by
  have := J_ifr (Z := fun a => Dest.rt a) (pos := pos) (fun a => a) hc hA hk
  rw [show (ra.bind fun a => ok a) = ra from bind_ret ra] at this
  exact this
/-- x = e -/
theorem S_setR (i : Nat) {x : Str} {Q : Rp α} (sQ : Stable Q) {re : M α} {p : Pos} (he : ET X G Γ e Q re) (hN : X.N[i]? = some x := by rfl) (hx : Loc X.env.scope x := by first | exact Or.inl rfl | exact Or.inr rfl) (hs : swapsWith e (some (.Name x p)) pos.line X.env = pure false := by rfl)
    (hf : X.fn x = true ∨ X.env.scope.names.lookup x = some .local := by first | exact Or.inl rfl | exact Or.inr rfl) :
    JS X G Γ (.Assign [.Name x p] e pos) R (fun a => .nx (put ⟨i, α, Q, sQ, a⟩ Γ)) re := fun w =>
  (ps_set w.nd hN hx (he w) hs hf).weakI fun E σ H hl ⟨H0, D0, D, os, hr, x, hx, hp⟩ => by
    refine ⟨H0, D0, D, os, hr, x, hx, ?_⟩
    cases x with
    | ex e => exact fun c d => hp c d σ
    | ok t =>
      intro v H' D' fp e r f
      have hi : i < σ.length := by rw [hl]; exact (List.getElem?_eq_some_iff.mp hN).1
      obtain ⟨os', q⟩ := (hr.grow e).put (st := sQ) hi hr.ext.h (fun p h => (hr.own p h).2.2) r f
      exact hp _ H' D' os' q
theorem S_set (i : Nat) {x : Str} {A : Dt α} {re : M α} {p : Pos} (he : ET X G Γ e (dat A) re) (hN : X.N[i]? = some x := by rfl) (hx : Loc X.env.scope x := by first | exact Or.inl rfl | exact Or.inr rfl) (hs : swapsWith e (some (.Name x p)) pos.line X.env = pure false := by rfl)
    (hf : X.fn x = true ∨ X.env.scope.names.lookup x = some .local := by first | exact Or.inl rfl | exact Or.inr rfl) :
    JS X G Γ (.Assign [.Name x p] e pos) R (fun a => .nx (put (eD i A a) Γ)) re := S_setR i (dat_st A) he hN hx hs hf
theorem S_setO (i : Nat) {x : Str} {A : Dt α} {re : M (List α)} {p : Pos} (he : ET X G Γ e (own A) re) (hN : X.N[i]? = some x := by rfl) (hx : Loc X.env.scope x := by first | exact Or.inl rfl | exact Or.inr rfl) (hs : swapsWith e (some (.Name x p)) pos.line X.env = pure false := by rfl)
    (hf : X.fn x = true ∨ X.env.scope.names.lookup x = some .local := by first | exact Or.inl rfl | exact Or.inr rfl) :
    JS X G Γ (.Assign [.Name x p] e pos) R (fun a => .nx (put (eO i A a) Γ)) re := S_setR i (own_st A) he hN hx hs hf
theorem S_eq {r r' : M θ} (h : JS X G Γ st R Z r) (e : r = r') : JS X G Γ st R Z r' := e ▸ h
/-! ### a list of one's own is changed -/
theorem Rel.upd {K : Fr} {H0 D0 H D : Hp} {σ : L2.St} {os : List Addr} {i : Nat} {A : Dt α} {val new : List α} {vs' : List L2.V} {p : Addr} {vs : List L2.V} (r : Rel K H0 D0 Γ σ H D os) (hf : find i Γ = some (eO i A val)) (hσ : σ[i]? = some (some (.ref p))) (hp : H p = some (.lst vs)) (ho : p ∈ os)
    (hn : Paired (A.rep K D) new vs') (q : ∃ os', Hold K H D σ (T.rmv i Γ) os' ∧ (p :: os').Nodup ∧ ∀ x ∈ p :: os', x ∈ os) : ∃ os', Rel K H0 D0 (T.put (eO i A new) Γ) σ (L2.upd H p (.lst vs')) D os' := by
  obtain ⟨os', q1, q2, q3⟩ := q
  obtain ⟨h1, h2, h3⟩ := r.own p ho
  have agree : ∀ x ∈ os', L2.upd H p (.lst vs') x = H x := fun x hx => upd_ne (fun z => (List.nodup_cons.mp q2).1 (z ▸ hx))
  refine ⟨p :: os', ⟨fun b o z => ?_, r.ext.d, fun b o z => ?_, r.ext.out⟩, fun x hx => ?_, q2, ⟨[p], os', rfl, ⟨.ref p, hσ, p, vs', rfl, rfl, upd_same, hn⟩, q1.agree agree (Same.refl _)⟩⟩
  · rw [upd_ne (ne_of_none z h1)]; exact r.ext.h b o z
  · rw [upd_ne (ne_of_none z h2)]; exact r.ext.dh b o z
  · obtain ⟨m1, m2, m3⟩ := r.own x (q3 x hx)
    refine ⟨m1, m2, ?_⟩
    by_cases z : x = p
    · subst z; rw [upd_same]; simp
    · rw [upd_ne z]; exact m3
def papp {α : Type} (xs : List α) (x : α) : M (List α) := grd (xs.length < sizeLine) (ok (xs ++ [x]))
theorem Paired.snoc {F : α → L2.V → Prop} {x : α} {v : L2.V} (h : F x v) : ∀ {xs : List α} {vs : List L2.V}, Paired F xs vs → Paired F (xs ++ [x]) (vs ++ [v])
  | _, _, .nil => .cons h .nil
  | _, _, .cons r t => .cons r (Paired.snoc h t)
/-- the address of an own list *)-/
theorem Rel.mut {K : Fr} {H0 D0 H D : Hp} {σ : L2.St} {os : List Addr} {i : Nat} {A : Dt α} {val : List α} (r : Rel K H0 D0 Γ σ H D os) (hf : find i Γ = some (eO i A val)) :
    ∃ p vs, σ[i]? = some (some (.ref p)) ∧ H p = some (.lst vs) ∧ Paired (A.rep K D) val vs ∧ ∀ H1 D1, Ext H D H1 D1 → H1 p = some (.lst vs) ∧ Paired (A.rep K D1) val vs ∧ ∀ new vs', Paired (A.rep K D1) new vs' → ∃ os', Rel K H0 D0 (T.put (eO i A new) Γ) σ (L2.upd H1 p (.lst vs')) D1 os' := by
  obtain ⟨fp, os', v, q1, ⟨p, vs, rfl, rfl, r3, r4⟩, q3, q4, q5⟩ := r.hold.find hf r.nd
  refine ⟨p, vs, q1, r3, r4, fun H1 D1 e => ⟨e.h _ _ r3, A.monos e.d r4, fun new vs' h => ?_⟩⟩
  refine (r.grow e).upd hf q1 (e.h _ _ r3) (q5 p (List.mem_append_left _ List.mem_cons_self)) h ⟨os', q3.agree (fun x hx => e.h.eq (r.own x (q5 x (List.mem_append_right _ hx))).2.2) e.d, q4, q5⟩
theorem S_append (i : Nat) {x : Str} {A : Dt α} {val : List α} {re : M α} {p p2 ep : Pos} (he : ET X G Γ e (dat A) re) (hv : find i Γ = some (eO i A val) := by rfl) (hN : X.N[i]? = some x := by rfl) (hvis : Vis X.env.scope x := by first | exact Or.inl rfl | exact Or.inr (Or.inl rfl) | exact Or.inr (Or.inr rfl))
    (hs1 : starEach [e] X.env = [(false, eval e X.env)] := by rfl) (hs : swapsWith (.Call (.Attribute (.Name x p) "append" p2) [e] [] ep) none pos.line X.env = pure false := by rfl)
    (hpl : (backTo ep (starEach [] X.env)).any (·.1) = false := by rfl) (hd : (x == ("__debug__" : Str)) = false := by decide) (hcd : (x == ("__classdict__" : Str)) = false := by decide)
    (hbase : attributeBase (.Name x p) "append" X.env (eval (.Name x p) X.env) = eval (.Name x p) X.env := by rfl)
    (hfew : ((backTo ep (starEach [e] X.env)).all (fun x => !x.1) && (backToKw ep (keywordEach [] X.env)).all (fun x => x.1.isSome)
      && decide (([e] : List Expr).length + ([] : List Keyword).length + (if ([] : List Keyword).isEmpty then 0 else 1) < 30)) = true := by rfl)
    (hline : (p2.endLine == ep.line) = true := by rfl) :
    JS X G Γ (.Expr (.Call (.Attribute (.Name x p) "append" p2) [e] [] ep) pos) R (fun a => .nx (put (eO i A a) Γ)) (re.bind fun y => papp val y) := fun w =>
  (ps_expr (pe_bm PySem.F.plainAttrs_list PySem.F.slot_list_append PySem.F.type_list_append mt_append (pe_var hN hvis hd hcd) (pa_cons (he w) pa_nil hs1) hbase hfew hline hs1 hpl) hs).weak fun E σ H ⟨H0, D0, D, os, hr, x, hx, hp⟩ => by
    obtain ⟨q, vs, h1, h2, h3, h4⟩ := hr.mut hv
    refine ⟨.ref q, h1, .inl ⟨rfl, vs, SqL.of h2⟩, ?_⟩
    refine seqE (P := fun _ _ x => jPost X.K X.mg G H0 D0 R (fun a => Dest.nx (put (eO i A a) Γ)) E x) hr hx hp (fun e h => fun c d => h c d σ) (fun _ _ _ h => h) fun z H1 D1 fp v _ hx1 e1 r1 f1 hr1 hp1 => ?_
    cases x with
    | ex e => exact absurd hx1 (grd_nx (fun z => nomatch z))
    | ok c =>
      obtain ⟨g1, g2⟩ := grd_ok hx1
      cases g2
      obtain ⟨m1, m2, m3⟩ := h4 H1 D1 e1
      refine ⟨q, vs, v, rfl, rfl, m1, by rw [← h3.length]; exact g1, ?_⟩
      obtain ⟨os', qq⟩ := m3 (val ++ [z]) (vs ++ [v]) (Paired.snoc r1.2 m2)
      exact hp1 σ _ D1 os' qq
def pset {α : Type} (xs : List α) (i : Int) (x : α) : M (List α) := match ixN xs.length i with
  | some j => ok (xs.set j x)
  | none => stuck
theorem Paired.set {F : α → L2.V → Prop} {x : α} {v : L2.V} (h : F x v) : ∀ {xs : List α} {vs : List L2.V} (j : Nat), Paired F xs vs → Paired F (xs.set j x) (vs.set j v)
  | _, _, _, .nil => .nil
  | _, _, 0, .cons r t => .cons h t
  | _, _, j + 1, .cons r t => .cons r (Paired.set h j t)
end
end T
set_option maxRecDepth 100000
set_option maxHeartbeats 4000000
namespace T
open PySem PySem.Spec PyProof.Rows L2
/-! ### what is walked -/
def ItOk {α : Type} (K : Fr) (J : It) (D1 : Hp) (A : Dt α) (xs : List α) : Prop := ∀ i H D, Le D1 D → Le D H →
  (∀ x, xs[i]? = some x → J.go i H ∧ ∀ v H', J.yld i H v H' → ∃ D', Ext H D H' D' ∧ A.rep K D' x v) ∧ (xs.length ≤ i → J.stop i H)
def tI {α : Type} (K : Fr) (mg : Str → Option Value) (G : Ctx) (Γ : Vw) (A : Dt α) (r : M (List α)) : TI := fun σ H R =>
  ∃ H0 D0 D os, Rel K H0 D0 Γ σ H D os ∧ ∃ x, r = some x ∧ match x with
    | .ok xs => ∀ J H' D', Ext H D H' D' → ItOk K J D' A xs → R J H'
    | .ex e => ∀ c d H' D' os', Rel K H0 D0 G.Vx σ H' D' os' → XRep K mg D' e c d → G.W c d σ H'
def ITR (X : Cx) (G : Ctx) (Γ : Vw) (tg it : Expr) {α : Type} (A : Dt α) (r : M (List α)) : Prop := Wf X G → PI X tg it (tI X.K X.mg G Γ A r)
theorem _root_.L2.PI.weak {X : Cx} {tg e : Expr} {t t' : TI} (h : PI X tg e t) (w : ∀ σ H Q, t' σ H Q → t σ H Q) : PI X tg e t' := ⟨fun pins s σ H Q I hq => h.run pins s σ H Q I (w _ _ _ hq)⟩
theorem Paired.get {α : Type} {F : α → L2.V → Prop} : ∀ {xs : List α} {vs : List L2.V} {i : Nat} {x : α}, Paired F xs vs → xs[i]? = some x → ∃ v, vs[i]? = some v ∧ F x v
  | _, _, _, _, .nil, e => by simp at e
  | _, _, 0, _, .cons r _, e => by simp at e; subst e; exact ⟨_, by simp, r⟩
  | _, _, i + 1, x, .cons _ t, e => by
    obtain ⟨v, h1, h2⟩ := Paired.get (i := i) (x := x) t (by simpa using e)
    exact ⟨v, by simpa using h1, h2⟩
theorem SqL.mono {K : Fr} {H H' : Hp} {a : Addr} {xs : List L2.V} (e : Le H H') (h : SqL K H a xs) : SqL K H' a xs := Same.seq e h
theorem itok_list {α : Type} {K : Fr} {D1 : Hp} {A : Dt α} {xs : List α} {p : Addr} {vs : List L2.V} (h1 : SqL K D1 p vs) (h2 : Paired (A.rep K D1) xs vs) : ItOk K (Itl K p) D1 A xs := fun i H D e1 e2 => by
  have hS : SqL K H p vs := SqL.mono (e1.trans e2) h1
  refine ⟨fun x hx => ?_, fun hl => ⟨vs, hS, by rw [← h2.length]; exact hl⟩⟩
  obtain ⟨v, q1, q2⟩ := Paired.get h2 hx
  refine ⟨⟨vs, v, hS, q1⟩, fun u H' ⟨e, y⟩ => ?_⟩
  subst e
  have : some v = some u := q1.symm.trans (y vs hS)
  cases this
  exact ⟨D, Ext.refl e2, A.mono e1 q2⟩
theorem itok_tup {α : Type} {K : Fr} {D1 : Hp} {A : Dt α} {xs : List α} {p : Addr} {vs : List L2.V} (h1 : SqT K D1 p vs) (h2 : Paired (A.rep K D1) xs vs) : ItOk K (Itt K p) D1 A xs := fun i H D e1 e2 => by
  have hS : SqT K H p vs := SqT.mono (e1.trans e2) h1
  refine ⟨fun x hx => ?_, fun hl => ⟨vs, hS, by rw [← h2.length]; exact hl⟩⟩
  obtain ⟨v, q1, q2⟩ := Paired.get h2 hx
  refine ⟨⟨vs, v, hS, q1⟩, fun u H' ⟨e, y⟩ => ?_⟩
  subst e
  have : some v = some u := q1.symm.trans (y vs hS)
  cases this
  exact ⟨D, Ext.refl e2, A.mono e1 q2⟩
/-- lo, lo + 1, .. n numbers -/
def rangeL (lo : Int) (n : Nat) : List Int := (List.range n).map fun i : Nat => lo + (i : Int)
theorem rangeL_get (lo : Int) (n i : Nat) : (rangeL lo n)[i]? = if i < n then some (lo + (i : Int)) else none := by
  unfold rangeL
  by_cases h : i < n
  · simp [h]
  · simp [h]
theorem rangeL_len (lo : Int) (n : Nat) : (rangeL lo n).length = n := by simp [rangeL]
theorem itok_range {K : Fr} {D1 : Hp} {lo : Int} {n : Nat} : ItOk K (Itr lo n) D1 tInt (rangeL lo n) := fun i H D e1 e2 => by
  refine ⟨fun x hx => ?_, fun hl => by rw [rangeL_len] at hl; exact hl⟩
  rw [rangeL_get] at hx
  by_cases h : i < n
  · rw [if_pos h] at hx
    cases hx
    refine ⟨h, fun u H' ⟨e, y⟩ => ?_⟩
    subst e
    exact ⟨D, Ext.refl e2, y⟩
  · rw [if_neg h] at hx; cases hx
section
variable {X : Cx} {G : Ctx} {Γ : Vw} {α β γ δ τ ρ θ C C' : Type} {a b c e it tg : Expr} {pos : Pos} {st : Stmt} {rest B : List Stmt} {R : Rp ρ} {Z : θ → Dest ρ}
theorem I_list {A : Dt α} {r : M (List α)} (h : ET X G Γ it (dat (tLst A)) r) : ITR X G Γ tg it A r := fun w =>
  (pi_list (h w)).weak fun σ H Q ⟨H0, D0, D, os, hr, x, hx, hp⟩ => ⟨H0, D0, D, os, hr, x, hx, by
    cases x with
    | ex e => exact hp
    | ok xs =>
      intro v H' D' fp e ⟨_, p, vs, r1, r2, r3⟩ f
      exact ⟨p, r1, ⟨vs, SqL.of (e.dh _ _ r2)⟩, hp _ H' D' e (itok_list (SqL.of r2) r3)⟩⟩
theorem I_tup {A : Dt α} {r : M (List α)} (h : ET X G Γ it (dat (tRow A)) r) : ITR X G Γ tg it A r := fun w =>
  (pi_tup (h w)).weak fun σ H Q ⟨H0, D0, D, os, hr, x, hx, hp⟩ => ⟨H0, D0, D, os, hr, x, hx, by
    cases x with
    | ex e => exact hp
    | ok xs =>
      intro v H' D' fp e ⟨_, p, vs, r1, r2, r3⟩ f
      exact ⟨p, r1, ⟨vs, SqT.mono e.dh r2⟩, hp _ H' D' e (itok_tup r2 r3)⟩⟩
def prange (j : Int) : M (List Int) := grd (j < 2 ^ 62) (ok (rangeL 0 j.toNat))
def prange2 (i j : Int) : M (List Int) := grd (-(2 ^ 62) ≤ i ∧ i < 2 ^ 62 ∧ -(2 ^ 62) ≤ j ∧ j < 2 ^ 62) (ok (rangeL i (j - i).toNat))
theorem I_range {ra : M Int} {p : Pos} (hm : X.mg "range" = none) (ha : ET X G Γ a (dat tInt) ra) (hg : Gl X "range" := by rfl) (hs : starEach [a] X.env = [(false, eval a X.env)] := by rfl) : ITR X G Γ tg (.Call (.Name "range" p) [a] [] pos) tInt (ra.bind fun j => grd (-(2 ^ 62) ≤ j) (prange j)) := fun w =>
  (pi_range1 hg hm (pa_cons (ha w) pa_nil hs) hs).weak fun σ H Q ⟨H0, D0, D, os, hr, x, hx, hp⟩ => by
    rcases bind_some hx with ⟨j, rfl, hf⟩ | ⟨e, rfl, rfl⟩
    · obtain ⟨g1, hf⟩ := grd_some hf
      obtain ⟨g2, hf⟩ := grd_some hf
      cases hf
      exact ⟨H0, D0, D, os, hr, _, rfl, fun v H' D' fp e ⟨_, r1⟩ f => ⟨j, by rw [show v = V.int j from r1], g1, g2, hp _ H' D' e itok_range⟩⟩
    · exact ⟨H0, D0, D, os, hr, _, rfl, hp⟩
theorem I_eq {A : Dt α} {r r' : M (List α)} (h : ITR X G Γ tg it A r) (e : r = r') : ITR X G Γ tg it A r' := e ▸ h
/-! ### targets -/
structure GT (X : Cx) (tg : Expr) (sl : List Nat) {α : Type} (A : Dt α) (u : α → Vw → Vw) (g : TG) : Prop where
  ex : X.N.Nodup → X.calm = true → PG X tg g ∧ ∀ (H0 D0 H D : Hp) (Γ : Vw) (σ : L2.St) (os : List Addr) (x : α) (v : L2.V) (Q : L2.St → Hp → Prop), σ.length = X.N.length → Rel X.K H0 D0 Γ σ H D os → A.rep X.K D x v →
    (∀ σ' os', σ'.length = X.N.length → (∀ vs, (∀ i ∈ sl, i ∈ vs) → wipe σ' vs = wipe σ vs) → Rel X.K H0 D0 (u x Γ) σ' H D os' → Q σ' H) → g v σ H Q
theorem wipe_set {σ : L2.St} {i : Nat} {w : Option L2.V} : ∀ {vs : List Nat}, i ∈ vs → wipe (σ.set i w) vs = wipe σ vs
  | [], h => nomatch h
  | v :: vs, h => by
    unfold wipe
    by_cases e : i ∈ vs
    · rw [wipe_set e]
    · have hv : i = v := by
        rcases List.mem_cons.mp h with z | z
        · exact z
        · exact absurd z e
      subst hv
      have : ∀ {us : List Nat}, i ∉ us → wipe (σ.set i w) us = (wipe σ us).set i w := fun {us} hu => by
        induction us with
        | nil => rfl
        | cons u us ih =>
          unfold wipe
          rw [ih (fun z => hu (List.mem_cons_of_mem _ z)), List.set_comm]
          exact fun z => hu (by rw [z]; exact List.mem_cons_self)
      rw [this e, List.set_set]
theorem wipe_wipe {σ : L2.St} {vs : List Nat} : ∀ (us : List Nat), (∀ i ∈ us, i ∈ vs) → wipe (wipe σ us) vs = wipe σ vs
  | [], _ => rfl
  | u :: us, h => by
    show wipe ((wipe σ us).set u none) vs = _
    rw [wipe_set (h u List.mem_cons_self), wipe_wipe us fun i hi => h i (List.mem_cons_of_mem _ hi)]
theorem G_name (i : Nat) {x : Str} {A : Dt α} {p : Pos} (hN : X.N[i]? = some x := by rfl) (hx : Loc X.env.scope x := by first | exact Or.inl rfl | exact Or.inr rfl)
    (hf : X.fn x = true ∨ X.env.scope.names.lookup x = some .local := by first | exact Or.inl rfl | exact Or.inr rfl) : GT X (.Name x p) [i] A (fun a Γ => put (eD i A a) Γ) (gName i) := ⟨fun nd _ => ⟨pg_name nd hN hx hf, fun H0 D0 H D Γ σ os x v Q hl hr h k => by
    have hi : i < σ.length := by rw [hl]; exact (List.getElem?_eq_some_iff.mp hN).1
    obtain ⟨os', q⟩ := hr.put (i := i) (R := dat A) (st := dat_st A) (a := x) (v := v) (fp := []) hi hr.ext.h (fun p h => (hr.own p h).2.2) ⟨rfl, h⟩ .nil
    exact k _ os' (by rw [List.length_set]; exact hl) (fun vs h => wipe_set (h i (by simp))) q⟩⟩
theorem G_rec2 {t1 t2 : Expr} {s1 s2 : List Nat} {A : Dt α} {B : Dt β} {u1 : α → Vw → Vw} {u2 : β → Vw → Vw} {g1 g2 : TG} {k : Nat} {p : Pos} (h1 : GT X t1 s1 A u1 g1) (h2 : GT X t2 s2 B u2 g2)
    (hs1 : (assignEach [t1, t2] X.env).map (·.2) = assign t1 X.env :: (assignEach [t2] X.env).map (·.2) := by rfl) (hs2 : (assignEach [t2] X.env).map (·.2) = assign t2 X.env :: (assignEach [] X.env).map (·.2) := by rfl)
    (hn : (assignEach [t1, t2] X.env).length = 2 := by rfl) (hst : (assignEach [t1, t2] X.env).findIdx? (·.1) = none := by rfl) : GT X (.Tuple [t1, t2] k p) (s1 ++ s2) (tRec2 A B) (fun x Γ => u2 x.2 (u1 x.1 Γ)) (gTup X.K 2 (gCons g1 (gCons g2 gNil))) := ⟨fun nd hc => by
    obtain ⟨p1, q1⟩ := h1.ex nd hc
    obtain ⟨p2, q2⟩ := h2.ex nd hc
    refine ⟨pg_tup hc (pgs_cons p1 (pgs_cons p2 pgs_nil hs2) hs1) hn hst, fun H0 D0 H D Γ σ os x v Q hl hr ⟨p, v1, v2, r1, r2, r3, r4⟩ k => ?_⟩
    refine ⟨p, [v1, v2], r1, SqT.mono hr.le r2, rfl, v1, [v2], rfl, q1 H0 D0 H D Γ σ os x.1 v1 _ hl hr r3 fun σ' os' hl' hw' hr' => ⟨v2, [], rfl, q2 H0 D0 H D _ σ' os' x.2 v2 _ hl' hr' r4 fun σ2 os2 hl2 hw2 hr2 => ⟨rfl, k σ2 os2 hl2 (fun vs h => ?_) hr2⟩⟩⟩
    rw [hw2 vs fun i hi => h i (List.mem_append_right _ hi), hw' vs fun i hi => h i (List.mem_append_left _ hi)]⟩
/-! ### for -/
def loopM {α C : Type} (f : C → α → M C) : C → List α → M C
  | c, [] => ok c
  | c, x :: xs => (f c x).bind fun c' => loopM f c' xs
def flk {C ρ : Type} (k : C → M (Fl C ρ)) : Fl C ρ → M (Fl C ρ)
  | .nx c => k c
  | .rt a => ok (.rt a)
def loopF {α C ρ : Type} (f : C → α → M (Fl C ρ)) : C → List α → M (Fl C ρ)
  | c, [] => ok (.nx c)
  | c, x :: xs => (f c x).bind (flk fun c' => loopF f c' xs)
theorem PG.withLen {X : Cx} {tg : Expr} {g : TG} (h : PG X tg g) : PG X tg (fun v σ H Q => σ.length = X.N.length → g v σ H fun σ' H' => σ'.length = X.N.length → Q σ' H') := ⟨fun pins s σ H v u Q I r hq =>
  thn (h.run pins s σ H v u _ I r (hq I.len)) fun _ s' ⟨σ', H', I', q⟩ => ⟨σ', H', I', q I'.len⟩⟩
theorem S_forF {sl : List Nat} {A : Dt α} {u : α → Vw → Vw} {Γl : C → Vw} {ri : M (List α)} {b : C → α → M (Fl C ρ)} (is : List Nat) (c0 : C) {g : TG} (hi : ITR X G Γ tg it A ri) (hg : GT X tg sl A u g) (hb : ∀ c x, JB X G (u x (Γl c)) B R (ZF Γl) (b c x)) (hc : G.c = true := by rfl) (h0 : pick is Γ = Γl c0 := by rfl)
    (hs : ∀ x, foldedSetIterable it X.env x = pure x := by intro _; rfl) : JS X G Γ (.For tg it B [] pos) R (ZF Γl) (ri.bind fun xs => loopF b c0 xs) := fun w => by
  obtain ⟨p, q⟩ := hg.ex w.nd (w.calm hc)
  have hb' : PSs X B (fun E σ H => ∃ c x, tJ X.K X.mg G (u x (Γl c)) R (ZF Γl) (b c x) E σ H) := ⟨fun pins s σ H D I ⟨c, x, h⟩ => (hb c x w).run pins s σ H D I h⟩
  refine (ps_for w.po (w.calm hc) (hi w) (PG.withLen p) hb' hs).weak fun E σ H ⟨H0, D0, D, os, hr, x, hx, hp⟩ => ?_
  rcases bind_some hx with ⟨xs, rfl, hf⟩ | ⟨e, rfl, rfl⟩
  · refine ⟨H0, D0, D, os, hr, _, rfl, fun J H1 D1 e1 hJ => ?_⟩
    have hr1 := hr.grow e1
    obtain ⟨os1, hr2⟩ := hr1.pick is
    rw [h0] at hr2
    refine ⟨fun i m σ H => m = xs.length - i ∧ i ≤ xs.length ∧ ∃ c D os, Rel X.K H0 D0 (Γl c) σ H D os ∧ Le D1 D ∧ loopF b c (xs.drop i) = some x, ⟨_, rfl, Nat.zero_le _, c0, D1, os1, hr2, Same.refl _, hf⟩, ?_⟩
    rintro i m σ H ⟨rfl, hi, c, D, os, hr, hl, hx⟩
    obtain ⟨j1, j2⟩ := hJ i H D hl hr.le
    by_cases hlt : i < xs.length
    · right
      have hg : xs[i]? = some xs[i] := List.getElem?_eq_getElem hlt
      obtain ⟨k1, k2⟩ := j1 _ hg
      rw [List.drop_eq_getElem_cons hlt] at hx
      have hx : (b c xs[i]).bind (flk fun c' => loopF b c' (xs.drop (i + 1))) = some x := hx
      refine ⟨k1, fun σ' H' => ∃ c1 D' os', b c xs[i] = ok (.nx c1) ∧ Rel X.K H0 D0 (Γl c1) σ' H' D' os' ∧ Le D1 D', ?_, ?_⟩
      · rintro σ' H' ⟨c1, D', os', hb1, hr', hl'⟩
        rw [hb1] at hx
        exact ⟨xs.length - (i + 1), by omega, rfl, hlt, c1, D', os', hr', hl', hx⟩
      · intro v H' hy hlen
        obtain ⟨D', e', rv⟩ := k2 v H' hy
        have hr3 := hr.grow e'
        have dd : Le D0 D' := hr3.ext.d
        have oo : ∀ p, D0 p = none → H0 p ≠ none → D' p = none := hr3.ext.out
        refine q H0 D' H' D' (Γl c) σ os xs[i] v _ hlen hr3.rebase rv fun σ2 os2 hl2 _ hr4 _ => ⟨c, xs[i], H0, D', D', os2, hr4, ?_⟩
        rcases bind_some hx with ⟨f, hb1, hf1⟩ | ⟨e, hb1, rfl⟩
        · refine ⟨_, hb1, ?_⟩
          cases f with
          | nx c1 => exact fun σ' H' D2 os' r => ⟨c1, D2, os', hb1, r.unbase dd oo, (hl.trans e'.d).trans r.ext.d⟩
          | rt a =>
            cases (show ok (Fl.rt a) = some x from hf1)
            exact (hp.rebase dd oo)
        · exact ⟨_, hb1, fun c d σ' H' D2 os' r => hp c d σ' H' D2 os' (r.unbase dd oo)⟩
    · left
      have ei : xs.drop i = [] := List.drop_eq_nil_of_le (by omega)
      rw [ei] at hx
      cases hx
      exact ⟨j2 (by omega), hp σ H D os hr⟩
  · exact ⟨H0, D0, D, os, hr, _, rfl, fun c d H' D' os' r => hp c d σ H' D' os' r⟩
theorem S_for {sl : List Nat} {A : Dt α} {u : α → Vw → Vw} {Γl : C → Vw} {ri : M (List α)} {b : C → α → M C} (is : List Nat) (c0 : C) {g : TG} (hi : ITR X G Γ tg it A ri) (hg : GT X tg sl A u g) (hb : ∀ c x, JB X G (u x (Γl c)) B R (fun c => .nx (Γl c)) (b c x)) (hc : G.c = true := by rfl) (h0 : pick is Γ = Γl c0 := by rfl)
    (hs : ∀ x, foldedSetIterable it X.env x = pure x := by intro _; rfl) : JS X G Γ (.For tg it B [] pos) R (fun c => .nx (Γl c)) (ri.bind fun xs => loopM b c0 xs) := fun w => by
  obtain ⟨p, q⟩ := hg.ex w.nd (w.calm hc)
  have hb' : PSs X B (fun E σ H => ∃ c x, tJ X.K X.mg G (u x (Γl c)) R (fun c => Dest.nx (Γl c)) (b c x) E σ H) := ⟨fun pins s σ H D I ⟨c, x, h⟩ => (hb c x w).run pins s σ H D I h⟩
  refine (ps_for w.po (w.calm hc) (hi w) (PG.withLen p) hb' hs).weak fun E σ H ⟨H0, D0, D, os, hr, x, hx, hp⟩ => ?_
  rcases bind_some hx with ⟨xs, rfl, hf⟩ | ⟨e, rfl, rfl⟩
  · refine ⟨H0, D0, D, os, hr, _, rfl, fun J H1 D1 e1 hJ => ?_⟩
    have hr1 := hr.grow e1
    obtain ⟨os1, hr2⟩ := hr1.pick is
    rw [h0] at hr2
    refine ⟨fun i m σ H => m = xs.length - i ∧ i ≤ xs.length ∧ ∃ c D os, Rel X.K H0 D0 (Γl c) σ H D os ∧ Le D1 D ∧ loopM b c (xs.drop i) = some x, ⟨_, rfl, Nat.zero_le _, c0, D1, os1, hr2, Same.refl _, hf⟩, ?_⟩
    rintro i m σ H ⟨rfl, hi, c, D, os, hr, hl, hx⟩
    obtain ⟨j1, j2⟩ := hJ i H D hl hr.le
    by_cases hlt : i < xs.length
    · right
      have hg : xs[i]? = some xs[i] := List.getElem?_eq_getElem hlt
      obtain ⟨k1, k2⟩ := j1 _ hg
      rw [List.drop_eq_getElem_cons hlt] at hx
      have hx : (b c xs[i]).bind (fun c' => loopM b c' (xs.drop (i + 1))) = some x := hx
      refine ⟨k1, fun σ' H' => ∃ c1 D' os', b c xs[i] = ok c1 ∧ Rel X.K H0 D0 (Γl c1) σ' H' D' os' ∧ Le D1 D', ?_, ?_⟩
      · rintro σ' H' ⟨c1, D', os', hb1, hr', hl'⟩
        rw [hb1] at hx
        exact ⟨xs.length - (i + 1), by omega, rfl, hlt, c1, D', os', hr', hl', hx⟩
      · intro v H' hy hlen
        obtain ⟨D', e', rv⟩ := k2 v H' hy
        have hr3 := hr.grow e'
        have dd : Le D0 D' := hr3.ext.d
        have oo : ∀ p, D0 p = none → H0 p ≠ none → D' p = none := hr3.ext.out
        refine q H0 D' H' D' (Γl c) σ os xs[i] v _ hlen hr3.rebase rv fun σ2 os2 hl2 _ hr4 _ => ⟨c, xs[i], H0, D', D', os2, hr4, ?_⟩
        rcases bind_some hx with ⟨f, hb1, hf1⟩ | ⟨e, hb1, rfl⟩
        · exact ⟨_, hb1, fun σ' H' D2 os' r => ⟨f, D2, os', hb1, r.unbase dd oo, (hl.trans e'.d).trans r.ext.d⟩⟩
        · exact ⟨_, hb1, fun c d σ' H' D2 os' r => hp c d σ' H' D2 os' (r.unbase dd oo)⟩
    · left
      have ei : xs.drop i = [] := List.drop_eq_nil_of_le (by omega)
      rw [ei] at hx
      cases hx
      exact ⟨j2 (by omega), hp σ H D os hr⟩
  · exact ⟨H0, D0, D, os, hr, _, rfl, fun c d H' D' os' r => hp c d σ H' D' os' r⟩
/-! ### while -/
def whileN {C : Type} (t : C → M Bool) (b : C → M C) : Nat → C → M C
  | 0, _ => stuck
  | n + 1, c => (t c).bind fun z => if z = true then (b c).bind (whileN t b n) else ok c
theorem whileN_mono {C : Type} {t : C → M Bool} {b : C → M C} : ∀ (n : Nat) (c : C) (x : Rs C), whileN t b n c = some x → ∀ k, whileN t b (n + k) c = some x
  | 0, _, _, h, _ => nomatch h
  | n + 1, c, x, h, k => by
    rw [show n + 1 + k = (n + k) + 1 by omega]
    have h : (t c).bind (fun z => if z = true then (b c).bind (whileN t b n) else ok c) = some x := h
    show (t c).bind (fun z => if z = true then (b c).bind (whileN t b (n + k)) else ok c) = some x
    rcases bind_some h with ⟨z, ht, hf⟩ | ⟨e, ht, rfl⟩
    · rw [ht, bind_ok]
      cases z with
      | false => exact hf
      | true =>
        have hf : (b c).bind (whileN t b n) = some x := hf
        show (b c).bind (whileN t b (n + k)) = some x
        rcases bind_some hf with ⟨c1, hb, hg⟩ | ⟨e, hb, rfl⟩
        · rw [hb]; exact whileN_mono n c1 x hg k
        · rw [hb]; rfl
    · rw [ht]; rfl
open Classical in
noncomputable def pickR {α : Type} (P : α → Prop) : Option α := if h : ∃ x, P x then some (Classical.choose h) else none
theorem pickR_pos {α : Type} {P : α → Prop} {x : α} (h : P x) (u : ∀ y, P y → y = x) : pickR P = some x := by
  have he : ∃ x, P x := ⟨x, h⟩
  unfold pickR
  rw [dif_pos he, u _ (Classical.choose_spec he)]
theorem pickR_neg {α : Type} {P : α → Prop} (h : ¬ ∃ x, P x) : pickR P = none := by
  unfold pickR
  rw [dif_neg h]
theorem pickR_some {α : Type} {P : α → Prop} {x : α} (h : pickR P = some x) : P x := by
  by_cases he : ∃ x, P x
  · unfold pickR at h
    rw [dif_pos he] at h
    cases h
    exact Classical.choose_spec he
  · rw [pickR_neg he] at h; cases h
def Runs {C : Type} (t : C → M Bool) (b : C → M C) (c : C) (x : Rs C) : Prop := ∃ n, whileN t b n c = some x
/-- first with fuel, so that the kernel can run it -/
noncomputable def whileM {C : Type} (t : C → M Bool) (b : C → M C) (c : C) : M C := match whileN t b 4000 c with
  | some x => some x
  | none => pickR (Runs t b c)
theorem whileM_none {C : Type} {t : C → M Bool} {b : C → M C} {c : C} (h : ∀ n x, whileN t b n c ≠ some x) : whileM t b c = none := by
  unfold whileM
  cases q : whileN t b 4000 c with
  | none => exact pickR_neg fun ⟨x, n, e⟩ => h n x e
  | some x => exact absurd q (h _ _)
theorem whileN_det {C : Type} {t : C → M Bool} {b : C → M C} {n m : Nat} {c : C} {x y : Rs C} (h : whileN t b n c = some x) (h2 : whileN t b m c = some y) : y = x := by
  have q1 := whileN_mono _ _ _ h2 n
  have q2 := whileN_mono _ _ _ h m
  rw [Nat.add_comm] at q2
  exact Option.some.inj (q1.symm.trans q2)
theorem whileM_of {C : Type} {t : C → M Bool} {b : C → M C} {n : Nat} {c : C} {x : Rs C} (h : whileN t b n c = some x) : whileM t b c = some x := by
  unfold whileM
  cases q : whileN t b 4000 c with
  | none => exact pickR_pos (P := Runs t b c) ⟨n, h⟩ fun y ⟨m, h2⟩ => whileN_det h h2
  | some y => exact congrArg some (whileN_det h q)
theorem whileM_some {C : Type} {t : C → M Bool} {b : C → M C} {c : C} {x : Rs C} (h : whileM t b c = some x) : ∃ n, whileN t b n c = some x := by
  unfold whileM at h
  cases q : whileN t b 4000 c with
  | none => rw [q] at h; exact pickR_some (P := Runs t b c) h
  | some y => rw [q] at h; cases h; exact ⟨_, q⟩
theorem whileM_eq {C : Type} (t : C → M Bool) (b : C → M C) (c : C) : whileM t b c = (t c).bind fun z => if z = true then (b c).bind (whileM t b) else ok c := by
  cases ht : t c with
  | none =>
    have : ∀ n x, whileN t b n c ≠ some x := fun n x h => by
      cases n with
      | zero => cases h
      | succ n => unfold whileN at h; rw [ht] at h; cases h
    rw [whileM_none this]
    rfl
  | some r =>
    cases r with
    | ex e => exact whileM_of (n := 1) (by unfold whileN; rw [ht]; rfl)
    | ok z =>
      cases z with
      | false => exact whileM_of (n := 1) (by unfold whileN; rw [ht]; rfl)
      | true =>
        show _ = (b c).bind (whileM t b)
        have step : ∀ n, whileN t b (n + 1) c = (b c).bind (whileN t b n) := fun n => by
          show (t c).bind _ = _
          rw [ht]; rfl
        cases hb : b c with
        | none =>
          have : ∀ n x, whileN t b n c ≠ some x := fun n x h => by
            cases n with
            | zero => cases h
            | succ n => rw [step, hb] at h; cases h
          rw [whileM_none this]
          rfl
        | some r =>
          cases r with
          | ex e => exact whileM_of (n := 1) (by rw [step, hb]; rfl)
          | ok c1 =>
            show _ = whileM t b c1
            cases hw : whileM t b c1 with
            | none =>
              cases hw2 : whileM t b c with
              | none => rfl
              | some x =>
                obtain ⟨n, h⟩ := whileM_some hw2
                cases n with
                | zero => cases h
                | succ n =>
                  rw [step, hb] at h
                  rw [whileM_of (show whileN t b n c1 = some x from h)] at hw
                  cases hw
            | some x =>
              obtain ⟨n, h⟩ := whileM_some hw
              exact whileM_of (n := n + 1) (by rw [step, hb]; exact h)
end
end T
set_option maxRecDepth 100000
set_option maxHeartbeats 4000000
namespace T
open PySem PySem.Spec PyProof.Rows L2
section
variable {X : Cx} {G : Ctx} {Γ : Vw} {α β γ δ τ ρ θ C C' : Type} {a b c e it tg : Expr} {pos : Pos} {st : Stmt} {rest B : List Stmt} {R : Rp ρ} {Z : θ → Dest ρ}
/-! ### lists made of lists -/
theorem Paired.append {F : α → L2.V → Prop} {ys : List α} {ws : List L2.V} (h : Paired F ys ws) : ∀ {xs : List α} {vs : List L2.V}, Paired F xs vs → Paired F (xs ++ ys) (vs ++ ws)
  | _, _, .nil => h
  | _, _, .cons r t => .cons r (Paired.append h t)
theorem Paired.take {F : α → L2.V → Prop} : ∀ {xs : List α} {vs : List L2.V} (n : Nat), Paired F xs vs → Paired F (xs.take n) (vs.take n)
  | _, _, 0, _ => .nil
  | _, _, n + 1, .nil => .nil
  | _, _, n + 1, .cons r t => .cons r (Paired.take n t)
theorem Paired.drop {F : α → L2.V → Prop} : ∀ {xs : List α} {vs : List L2.V} (n : Nat), Paired F xs vs → Paired F (xs.drop n) (vs.drop n)
  | _, _, 0, h => h
  | _, _, n + 1, .nil => .nil
  | _, _, n + 1, .cons r t => Paired.drop n t
theorem Paired.rep {F : α → L2.V → Prop} {xs : List α} {vs : List L2.V} (h : Paired F xs vs) : ∀ k : Nat, Paired F (List.replicate k xs).flatten (List.replicate k vs).flatten
  | 0 => .nil
  | k + 1 => by
    rw [List.replicate_succ, List.replicate_succ, List.flatten_cons, List.flatten_cons]
    exact Paired.append (Paired.rep h k) h
theorem Paired.reverse {F : α → L2.V → Prop} : ∀ {xs : List α} {vs : List L2.V}, Paired F xs vs → Paired F xs.reverse vs.reverse
  | _, _, .nil => .nil
  | _, _, .cons r t => by
    rw [List.reverse_cons, List.reverse_cons]
    exact Paired.snoc r (Paired.reverse t)
/-- the end of a rule that makes a new list -/
theorem own_new {K : Fr} {H D : Hp} {A : Dt α} {xs : List α} {vs : List L2.V} {Q : VK} {p : Addr} (le : Le D H) (np : H p = none) (h : Paired (A.rep K D) xs vs) (k : ∀ v H' D' fp, Ext H D H' D' → (own A).rep K H' D' fp xs v → Frs H D' H' fp → Q v H') : Q (.ref p) (upd H p (.lst vs)) :=
  k (.ref p) _ D [p] (Ext.fresh le np) ⟨p, vs, rfl, rfl, upd_same, h⟩ ⟨by simp, fun q hq => by
    have : q = p := by simpa using hq
    subst this
    exact ⟨np, le.free np, by rw [upd_same]; simp⟩⟩
theorem row_new {K : Fr} {H D : Hp} {A : Dt α} {xs : List α} {vs : List L2.V} {Q : VK} {p : Addr} (le : Le D H) (np : H p = none) (h : Paired (A.rep K D) xs vs) (k : ∀ v H' D' fp, Ext H D H' D' → (dat (tRow A)).rep K H' D' fp xs v → Frs H D' H' fp → Q v H') : Q (.ref p) (upd H p (.tup vs)) :=
  k (.ref p) _ (upd D p (.tup vs)) [] (Ext.laid le np) ⟨rfl, p, vs, rfl, .inl (.inl upd_same), A.monos (Same.upd (le.free np)) h⟩ .nil
def pcat {α : Type} (xs ys : List α) : M (List α) := grd (xs.length + ys.length ≤ sizeLine) (ok (xs ++ ys))
/-- a list that stands and may be changed or not, to be read at once -/
def borT {α : Type} (A : Dt α) : Rp (List α) := ⟨fun K H D fp xs v => fp = [] ∧ ∃ p vs, v = .ref p ∧ H p = some (.lst vs) ∧ Paired (A.rep K D) xs vs,
  fun e d ⟨h0, p, vs, h1, h3, h4⟩ => ⟨h0, p, vs, h1, e _ _ h3, A.monos d h4⟩⟩
theorem E_borT {A : Dt α} {r : M (List α)} (h : ET X G Γ a (dat (tLst A)) r) : ET X G Γ a (borT A) r := fun w =>
  (h w).weak fun σ H Q ⟨H0, D0, D, os, hr, x, hx, hp⟩ => ⟨H0, D0, D, os, hr, x, hx, by
    cases x with
    | ex e => exact hp
    | ok xs => exact fun v H' D' fp e ⟨h0, p, vs, r1, r3, r4⟩ f => hp v H' D' [] e ⟨rfl, p, vs, r1, e.dh _ _ r3, r4⟩ .nil⟩
theorem E_borTF {A : Dt α} {r : M (List α)} (h : ET X G Γ a (own A) r) : ET X G Γ a (borT A) r := E_borT (E_frz h)
theorem E_cat {A : Dt α} {ra rb : M (List α)} (ha : ET X G Γ a (borT A) ra) (hb : ET X G Γ b (borT A) rb) : ET X G Γ (.BinOp a .Add b pos) (own A) (ra.bind fun x => rb.bind fun y => pcat x y) :=
  E_op2 (A := borT A) (B := borT A) (R := own A) op_cat (fun H D xs ys va vb fa fb c Q le ⟨_, p, vs, z1, h1, h2⟩ ⟨_, q, ws, z2, h3, h4⟩ hg k => by
    obtain ⟨g1, g2⟩ := grd_ok hg
    cases g2
    exact ⟨p, q, vs, ws, z1, z2, h1, h3, by rw [← h2.length, ← h4.length]; exact g1, fun r nr => own_new le nr (Paired.append h4 h2) k⟩) (fun _ _ _ => grd_nx (fun z => nomatch z)) ha hb
def prep {α : Type} (xs : List α) (k : Int) : M (List α) := grd (-(2 ^ 63) ≤ k ∧ k < 2 ^ 63 ∧ xs.length * k.toNat ≤ sizeLine) (ok (List.replicate k.toNat xs).flatten)
theorem E_rep {A : Dt α} {ra : M (List α)} {rb : M Int} (ha : ET X G Γ a (borT A) ra) (hb : ET X G Γ b (dat tInt) rb) : ET X G Γ (.BinOp a .Mult b pos) (own A) (ra.bind fun x => rb.bind fun y => prep x y) :=
  E_op2 (A := borT A) (B := dat tInt) (R := own A) op_rep (fun H D xs k va vb fa fb c Q le ⟨_, p, vs, z1, h1, h2⟩ ⟨_, z2⟩ hg q => by
    obtain ⟨⟨g1, g2, g3⟩, g4⟩ := grd_ok hg
    cases g4
    exact ⟨p, k, vs, z1, z2, h1, g1, g2, by rw [← h2.length]; exact g3, fun r nr => own_new le nr (Paired.rep h2 _) q⟩) (fun _ _ _ => grd_nx (fun z => nomatch z)) ha hb
/-- list(x) -/
theorem E_listL {A : Dt α} {ra : M (List α)} {p : Pos} (hm : X.mg "list" = none) (ha : ET X G Γ a (bor A) ra) (hg : Gl X "list" := by rfl) (hs1 : starEach [a] X.env = [(false, eval a X.env)] := by rfl) :
    ET X G Γ (.Call (.Name "list" p) [a] [] pos) (own A) (ra.bind fun x => ok x) := E_ty1 (A := bor A) (R := own A) call_list_of (fun H D a va fa c Q le ⟨_, p, vs, z, h1, h2⟩ hg k => by
    cases hg
    exact ⟨p, vs, by rw [z], .inl h1, fun l nl => own_new le nl h2 k⟩) nxok hm (by decide +kernel) ha hg (by decide) (by decide) hs1 rfl
theorem E_tupleL {A : Dt α} {ra : M (List α)} {p : Pos} (hm : X.mg "tuple" = none) (ha : ET X G Γ a (bor A) ra) (hg : Gl X "tuple" := by rfl) (hs1 : starEach [a] X.env = [(false, eval a X.env)] := by rfl) :
    ET X G Γ (.Call (.Name "tuple" p) [a] [] pos) (dat (tRow A)) (ra.bind fun x => ok x) := E_ty1 (A := bor A) (R := dat (tRow A)) call_tuple_of (fun H D a va fa c Q le ⟨_, p, vs, z, h1, h2⟩ hg k => by
    cases hg
    exact ⟨p, vs, by rw [z], .inl ⟨h1, fun l nl => row_new le nl h2 k⟩⟩) nxok hm (by decide +kernel) ha hg (by decide) (by decide) hs1 rfl
/-! ### slices -/
def cutL {α : Type} (xs : List α) (lo hi : Option Int) : List α := (xs.drop (HT.sIx xs.length 0 lo)).take (HT.sIx xs.length xs.length hi - HT.sIx xs.length 0 lo)
theorem cutV_paired {F : α → L2.V → Prop} {xs : List α} {vs : List L2.V} (h : Paired F xs vs) (lo hi : Option Int) : Paired F (cutL xs lo hi) (cutV vs lo hi) := by
  unfold cutL cutV
  rw [h.length]
  exact Paired.take _ (Paired.drop _ h)
/-- a part of a slice -/
def OT (X : Cx) (G : Ctx) (Γ : Vw) (e : Option Expr) (r : M (Option Int)) : Prop := Wf X G → PO X e (fun σ H Q => ∃ H0 D0 D os, Rel X.K H0 D0 Γ σ H D os ∧ ∃ x, r = some x ∧ match x with
    | .ok o => ∀ H' D', Ext H D H' D' → Q o H'
    | .ex e => ∀ c d H' D' os', Rel X.K H0 D0 G.Vx σ H' D' os' → XRep X.K X.mg D' e c d → G.W c d σ H')
theorem _root_.L2.PO.weak {X : Cx} {e : Option Expr} {t t' : TO} (h : PO X e t) (w : ∀ σ H Q, t' σ H Q → t σ H Q) : PO X e t' := ⟨fun pins s σ H Q I hq => h.run pins s σ H Q I (w _ _ _ hq)⟩
theorem O_none : OT X G Γ none (ok none) := fun w => po_none.weak fun σ H Q ⟨H0, D0, D, os, hr, x, hx, hp⟩ => by
  cases hx
  exact hp H D (Ext.refl hr.le)
theorem O_some {ra : M Int} (ha : ET X G Γ a (dat tInt) ra) : OT X G Γ (some a) (ra.bind fun x => ok (some x)) := fun w => (po_some (ha w)).weak fun σ H Q ⟨H0, D0, D, os, hr, x, hx, hp⟩ => by
  rcases bind_some hx with ⟨i, rfl, hf⟩ | ⟨e, rfl, rfl⟩
  · cases hf
    exact ⟨H0, D0, D, os, hr, _, rfl, fun v H' D' fp e ⟨_, r⟩ f => ⟨i, r, hp H' D' e⟩⟩
  · exact ⟨H0, D0, D, os, hr, _, rfl, hp⟩
theorem E_sl {r : L2.V → Option Int → Option Int → Hp → VK → Prop} {A : Rp α} {Q' : Rp γ} {g : α → Option Int → Option Int → M γ} {ra : M α} {rl rh : M (Option Int)} {lo hi : Option Expr} {p2 : Pos} (hr' : SlR X r) (ha : ET X G Γ a A ra) (hl : OT X G Γ lo rl) (hh : OT X G Γ hi rh)
    (nx : ∀ x l h e, g x l h ≠ exc e) (hs : ∀ (H D : Hp) x v f l h c Q, Le D H → A.rep X.K H D f x v → g x l h = ok c → (∀ v H' D' fp, Ext H D H' D' → Q'.rep X.K H' D' fp c v → Frs H D' H' fp → Q v H') → r v l h H Q) :
    ET X G Γ (.Subscript a (.Slice lo hi none p2) pos) Q' (ra.bind fun x => rl.bind fun l => rh.bind fun h => g x l h) := fun w =>
  (pe_slice hr' (ha w) (hl w) (hh w)).weak fun σ H Q ⟨H0, D0, D, os, hr, x, hx, hp⟩ =>
    seqEE hr hx hp fun i H1 D1 fp v _ hx1 e1 r1 f1 hr1 hp1 => by
      rcases bind_some hx1 with ⟨l, rfl, hf⟩ | ⟨e, rfl, rfl⟩
      · refine ⟨H0, D0, D1, os, hr1, _, rfl, fun H2 D2 e2 => ?_⟩
        have hr2 := hr1.grow e2
        have hp2 := hp1.grow e2
        rcases bind_some hf with ⟨h, rfl, hf⟩ | ⟨e, rfl, rfl⟩
        · refine ⟨H0, D0, D2, os, hr2, _, rfl, fun H3 D3 e3 => ?_⟩
          have hr3 := hr2.grow e3
          have hp3 := hp2.grow e3
          cases x with
          | ok c => exact hs H3 D3 i v fp l h c Q hr3.le (A.mono (e2.h.trans e3.h) (e2.d.trans e3.d) r1) hf hp3
          | ex e => exact absurd hf (nx _ _ _ _)
        · exact ⟨H0, D0, D2, os, hr2, _, rfl, hp2⟩
      · exact ⟨H0, D0, D1, os, hr1, _, rfl, hp1⟩
theorem E_slL {A : Dt α} {ra : M (List α)} {rl rh : M (Option Int)} {lo hi : Option Expr} {p2 : Pos} (ha : ET X G Γ a (bor A) ra) (hl : OT X G Γ lo rl) (hh : OT X G Γ hi rh) :
    ET X G Γ (.Subscript a (.Slice lo hi none p2) pos) (own A) (ra.bind fun x => rl.bind fun l => rh.bind fun h => ok (cutL x l h)) :=
  E_sl (A := bor A) (Q' := own A) (g := fun x l h => ok (cutL x l h)) sl_list ha hl hh (fun _ _ _ _ z => nomatch z) fun H D x v f l h c Q le ⟨_, p, vs, z, h1, h2⟩ hg k => by
    cases hg
    exact ⟨p, vs, z, h1, fun q nq => own_new le nq (cutV_paired h2 l h) k⟩
end
end T
set_option maxRecDepth 100000
set_option maxHeartbeats 4000000
namespace T
open PySem PySem.Spec PyProof.Rows L2
/-! ### comprehensions -/
def noX {α : Type} (m : M α) : M α := match m with
  | some (.ok a) => ok a
  | _ => none
theorem noX_ok {α : Type} (a : α) : noX (ok a) = ok a := rfl
theorem noX_some {α : Type} {m : M α} {x : Rs α} (h : noX m = some x) : ∃ a, m = ok a ∧ x = .ok a := by
  cases m with
  | none => cases h
  | some r =>
    cases r with
    | ok a => cases h; exact ⟨a, rfl, rfl⟩
    | ex e => cases h
/-- t: the test, f: the element -/
def compG {α β : Type} (t : α → M Bool) (f : α → M β) : List α → M (List β)
  | [] => ok []
  | x :: xs => (noX (t x)).bind fun b => if b = true then (noX (f x)).bind fun y => (compG t f xs).bind fun r => ok (y :: r) else compG t f xs
def compL {α β : Type} (t : α → M Bool) (f : α → M β) (xs : List α) : M (List β) := (compG t f xs).bind psz
/-- without a test -/
def mapC {α β : Type} (f : α → M β) (xs : List α) : M (List β) := compL (fun _ => ok true) f xs
theorem compG_nx {α β : Type} {t : α → M Bool} {f : α → M β} : ∀ (xs : List α) (e : Ex), compG t f xs ≠ exc e
  | [], e, h => nomatch h
  | x :: xs, e, h => by
    have h : (noX (t x)).bind (fun b => if b = true then (noX (f x)).bind fun y => (compG t f xs).bind fun r => ok (y :: r) else compG t f xs) = some (.ex e) := h
    rcases bind_some h with ⟨b, h1, h2⟩ | ⟨e', h1, _⟩
    · cases b with
      | true =>
        have h2 : (noX (f x)).bind (fun y => (compG t f xs).bind fun r => ok (y :: r)) = some (.ex e) := h2
        rcases bind_some h2 with ⟨y, h3, h4⟩ | ⟨e', h3, _⟩
        · rcases bind_some h4 with ⟨r, h5, h6⟩ | ⟨e', h5, _⟩
          · cases h6
          · exact compG_nx xs e' h5
        · obtain ⟨a, _, z⟩ := noX_some (show noX (f x) = some (.ex e') from h3)
          cases z
      | false => exact compG_nx xs e h2
    · obtain ⟨a, _, z⟩ := noX_some (show noX (t x) = some (.ex e') from h1)
      cases z
section
variable {X : Cx} {G : Ctx} {Γ : Vw} {α β γ δ τ ρ θ C C' : Type} {a b c e it tg elt : Expr} {pos : Pos} {st : Stmt} {rest B : List Stmt} {R : Rp ρ} {Z : θ → Dest ρ} {ifs : List Expr}
def BTs (X : Cx) (G : Ctx) (Γ : Vw) (ifs : List Expr) (r : M Bool) : Prop := Wf X G → PTs X ifs (tB X.K X.mg G Γ r)
theorem Bs_nil : BTs X G Γ [] (ok true) := fun w => ⟨fun pins s σ H Q I ⟨H0, D0, D, os, hr, x, hx, hp⟩ => by
  cases hx
  exact wpAny_tests_nil ⟨H, I, hp H D (Ext.refl hr.le)⟩⟩
def rmvs : List Nat → Vw → Vw
  | [], Γ => Γ
  | i :: is, Γ => rmv i (rmvs is Γ)
theorem Hold.wipe {K : Fr} {H D : Hp} {σ : L2.St} {Γ : Vw} {os : List Addr} : ∀ (vs : List Nat), os.Nodup → Hold K H D σ Γ os → ∃ os', Hold K H D (wipe σ vs) (rmvs vs Γ) os' ∧ os'.Nodup ∧ ∀ p ∈ os', p ∈ os
  | [], nd, h => ⟨os, h, nd, fun _ z => z⟩
  | v :: vs, nd, h => by
    obtain ⟨o1, q1, q2, q3⟩ := Hold.wipe vs nd h
    obtain ⟨o2, p1, p2, p3⟩ := q1.rmv v q2
    exact ⟨o2, p1.set, p2, fun p hp => q3 p (p3 p hp)⟩
theorem Rel.wipe {K : Fr} {H0 D0 H D : Hp} {σ : L2.St} {os : List Addr} (r : Rel K H0 D0 Γ σ H D os) (vs : List Nat) : ∃ os', Rel K H0 D0 (rmvs vs Γ) (L2.wipe σ vs) H D os' := by
  obtain ⟨o1, q1, q2, q3⟩ := r.hold.wipe vs r.nd
  exact ⟨o1, r.ext, fun p hp => r.own p (q3 p hp), q2, q1⟩
abbrev Ctx.blk (G : Ctx) : Ctx := ⟨fun _ _ _ _ => False, [], G.k, G.c⟩
theorem Wf.blk (w : Wf X G) (s : Shared) (H : Hp) (scope : Scope) (cenv : Env) (fp : List Addr) : Wf (X.blk s H scope cenv fp) G.blk :=
  ⟨takes0, w.nd, w.room, w.calm, w.hu, PassesOwn.never⟩
/-- the reading of a comprehension from ours -/
theorem comp_weak {A : Dt α} {B : Dt β} {u : α → Vw → Vw} {ri : M (List α)} {t : α → M Bool} {f : α → M β} {vs : List Nat} {g : TG}
    (N : Nat) (hg : ∀ (H0 D0 H D : Hp) (Γ : Vw) (σ : L2.St) (os : List Addr) (x : α) (v : L2.V) (Q : L2.St → Hp → Prop), σ.length = N → Rel X.K H0 D0 Γ σ H D os → A.rep X.K D x v →
      (∀ σ' os', σ'.length = N → (wipe σ' vs = wipe σ vs) → Rel X.K H0 D0 (u x Γ) σ' H D os' → Q σ' H) → g v σ H Q)
    (σ : L2.St) (H : Hp) (Q : VK) (hl : σ.length = N) (h : tE X.K X.mg G Γ (own B) (ri.bind fun xs => compL t f xs) σ H Q) :
    tLc (tI X.K X.mg G Γ A ri) g (fun σ H Q => ∃ x, tB X.K X.mg G.blk (u x (rmvs vs Γ)) (t x) σ H Q) (fun σ H Q => ∃ x, tE X.K X.mg G.blk (u x (rmvs vs Γ)) (dat B) (f x) σ H Q) vs σ H Q := by
  obtain ⟨H0, D0, D, os, hr, x, hx, hp⟩ := h
  rcases bind_some hx with ⟨xs, rfl, hf⟩ | ⟨e, rfl, rfl⟩
  · refine ⟨H0, D0, D, os, hr, _, rfl, fun J H1 D1 e1 hJ Dl nD => ?_⟩
    rcases bind_some hf with ⟨res, hres, hsz⟩ | ⟨e, he, _⟩
    · obtain ⟨sz, e0⟩ := grd_some hsz
      cases e0
      have hr1 := hr.grow e1
      have nD1 : D1 Dl = none := e1.dh.free nD
      have hp1 := hp.grow e1
      -- Pv: so many are taken, the new list holds acc
      refine ⟨fun i m H => m = xs.length - i ∧ i ≤ xs.length ∧ ∃ acc vacc rest D2, H Dl = some (.lst vacc) ∧ Ext H1 D1 H D2 ∧ D2 Dl = none ∧ Paired (B.rep X.K D2) acc vacc ∧ compG t f (xs.drop i) = ok rest ∧ res = acc ++ rest,
        ⟨_, rfl, Nat.zero_le _, [], [], res, D1, upd_same, Ext.fresh e1.dh nD, nD1, .nil, hres, rfl⟩, ?_⟩
      rintro i m H2 ⟨rfl, hi, acc, vacc, rest, D2, hD, e2, nD2, hpa, hc, hres2⟩
      have hr2 := hr1.grow e2
      obtain ⟨j1, j2⟩ := hJ i H2 D2 e2.d e2.dh
      by_cases hlt : i < xs.length
      · right
        have hgx : xs[i]? = some xs[i] := List.getElem?_eq_getElem hlt
        obtain ⟨k1, k2⟩ := j1 _ hgx
        rw [List.drop_eq_getElem_cons hlt] at hc
        have hc : (noX (t xs[i])).bind (fun b => if b = true then (noX (f xs[i])).bind fun y => (compG t f (xs.drop (i + 1))).bind fun r => ok (y :: r) else compG t f (xs.drop (i + 1))) = some (.ok rest) := hc
        refine ⟨k1, fun H' => ∃ acc vacc rest D2, H' Dl = some (.lst vacc) ∧ Ext H1 D1 H' D2 ∧ D2 Dl = none ∧ Paired (B.rep X.K D2) acc vacc ∧ compG t f (xs.drop (i + 1)) = ok rest ∧ res = acc ++ rest, fun H' hN => ⟨xs.length - (i + 1), by omega, rfl, hlt, hN⟩, fun v H3 hy => ?_⟩
        obtain ⟨D3, e3, rv⟩ := k2 v H3 hy
        have hr3 := hr2.grow e3
        have hD3 : H3 Dl = some (.lst vacc) := e3.h _ _ hD
        have nD3 : D3 Dl = none := e3.out Dl nD2 (by rw [hD]; simp)
        obtain ⟨os4, hr4⟩ := hr3.wipe vs
        refine hg H0 D0 H3 D3 (rmvs vs Γ) (wipe σ vs) os4 xs[i] v _ (by rw [wipe_length]; exact hl) hr4 rv fun σ5 os5 hl5 hw5 hr5 => ⟨?_, xs[i], H0, D0, D3, os5, hr5, ?_⟩
        · rw [hw5, wipe_wipe vs fun _ h => h]
        rcases bind_some hc with ⟨b, hb1, hb2⟩ | ⟨e, he, _⟩
        · obtain ⟨b', hb3, hb4⟩ := noX_some hb1
          cases hb4
          refine ⟨_, hb3, fun H6 D6 e6 => ?_⟩
          have hr6 := hr5.grow e6
          have hD6 : H6 Dl = some (.lst vacc) := e6.h _ _ hD3
          have nD6 : D6 Dl = none := e6.out Dl nD3 (by rw [hD3]; simp)
          have e16 : Ext H1 D1 H6 D6 := (e2.trans e3).trans e6
          cases b with
          | false => exact ⟨acc, vacc, rest, D6, hD6, e16, nD6, B.monos (e3.d.trans e6.d) hpa, hb2, hres2⟩
          | true =>
            refine iteT ?_
            have hb2 : (noX (f xs[i])).bind (fun y => (compG t f (xs.drop (i + 1))).bind fun r => ok (y :: r)) = some (.ok rest) := hb2
            rcases bind_some hb2 with ⟨y, hy1, hy2⟩ | ⟨e, he, z⟩
            · obtain ⟨y', hy3, hy4⟩ := noX_some hy1
              cases hy4
              rcases bind_some hy2 with ⟨r, hr7, hr8⟩ | ⟨e, he, z⟩
              · cases hr8
                refine ⟨xs[i], H0, D0, D6, os5, hr6, _, hy3, fun v7 H7 D7 fp7 e7 ⟨_, rep7⟩ f7 => ?_⟩
                have hD7 : H7 Dl = some (.lst vacc) := e7.h _ _ hD6
                have nD7 : D7 Dl = none := e7.out Dl nD6 (by rw [hD6]; simp)
                have e17 := e16.trans e7
                have hpa7 : Paired (B.rep X.K D7) (acc ++ [y]) (vacc ++ [v7]) := Paired.snoc rep7 (B.monos ((e3.d.trans e6.d).trans e7.d) hpa)
                refine ⟨vacc, hD7, ?_, acc ++ [y], vacc ++ [v7], r, D7, upd_same, ⟨fun b o z => ?_, e17.d, fun b o z => ?_, e17.out⟩, nD7, hpa7, hr7, by rw [hres2]; simp⟩
                · have l1 : acc.length = vacc.length := hpa.length
                  rw [hres2] at sz
                  simp only [List.length_append, List.length_cons] at sz
                  omega
                · rw [upd_ne (ne_of_none z nD)]; exact e17.h b o z
                · rw [upd_ne (ne_of_none z nD7)]; exact e17.dh b o z
              · cases z
            · cases z
        · obtain ⟨a, _, z⟩ := noX_some (show noX (t xs[i]) = some (.ex e) from he)
          cases z
      · left
        have ei : xs.drop i = [] := List.drop_eq_nil_of_le (by omega)
        rw [ei] at hc
        cases hc
        refine ⟨j2 (by omega), ?_⟩
        refine hp1 (.ref Dl) H2 D2 [Dl] e2 ⟨Dl, vacc, rfl, rfl, hD, ?_⟩ ⟨by simp, fun q hq => ?_⟩
        · rw [hres2, List.append_nil]; exact hpa
        · have : q = Dl := by simpa using hq
          subst this
          exact ⟨nD, nD2, by rw [hD]; simp⟩
    · exact absurd he (compG_nx _ _)
  · exact ⟨H0, D0, D, os, hr, _, rfl, hp⟩
theorem _root_.L2.PE.weakI {X : Cx} {e : Expr} {t t' : TE} (h : PE X e t) (w : ∀ σ H Q, σ.length = X.N.length → t' σ H Q → t σ H Q) : PE X e t' := ⟨fun pins s σ H Q I hq => h.run pins s σ H Q I (w _ _ _ I.len hq)⟩
structure CompOk (X : Cx) (G : Ctx) (Γ : Vw) (elt tg it : Expr) (ifs : List Expr) (scope : Scope) (own : List (Str × Nat)) (B : Dt β) (r : M (List β)) : Prop where
  ex : Wf X G → ∃ (wi : TI) (g : TG) (tt : TT) (te : TE), PI X tg it wi ∧ BlkOk X.N X.env.scope scope own ∧ (∀ s H C cl fp, PG (X.blk s H scope (compEnvC scope cl C X.env) fp) tg g) ∧ (∀ s H C cl fp, PTs (X.blk s H scope (compEnvC scope cl C X.env) fp) ifs tt) ∧
    (∀ s H C cl fp, PE (X.blk s H scope (compEnvC scope cl C X.env) fp) elt te) ∧ (∀ x, foldedSetIterable it X.env x = pure x) ∧ ∀ σ H Q, σ.length = X.N.length → tE X.K X.mg G Γ (T.own B) r σ H Q → tLc wi g tt te (own.map (·.2)) σ H Q
theorem C_comp {scope : Scope} {own : List (Str × Nat)} {sl : List Nat} {A : Dt α} {B : Dt β} {u : α → Vw → Vw} {g : TG} {ri : M (List α)} {t : α → M Bool} {f : α → M β} (hi : ITR X G Γ tg it A ri)
    (hg : ∀ (s : Shared) (H : Hp) (C : Addr) (cl : List (Str × Addr)) (fp : List Addr), GT (X.blk s H scope (compEnvC scope cl C X.env) fp) tg sl A u g)
    (ht : ∀ (s : Shared) (H : Hp) (C : Addr) (cl : List (Str × Addr)) (fp : List Addr) (x : α), BTs (X.blk s H scope (compEnvC scope cl C X.env) fp) G.blk (u x (rmvs (own.map (·.2)) Γ)) ifs (t x))
    (he : ∀ (s : Shared) (H : Hp) (C : Addr) (cl : List (Str × Addr)) (fp : List Addr) (x : α), ET (X.blk s H scope (compEnvC scope cl C X.env) fp) G.blk (u x (rmvs (own.map (·.2)) Γ)) elt (dat B) (f x))
    (hc : G.c = true := by rfl)
    (hok : blkC X.N X.env.scope scope own = true := by decide +kernel) (hsl : ∀ i ∈ sl, i ∈ own.map (·.2) := by decide) (hs : ∀ x, foldedSetIterable it X.env x = pure x := by intro _; rfl) : CompOk X G Γ elt tg it ifs scope own B (ri.bind fun xs => compL t f xs) := ⟨fun w =>
  ⟨_, g, _, _, hi w, blkOk_by hok, fun s H C cl fp => ((hg s H C cl fp).ex w.nd (w.calm hc)).1,
    fun s H C cl fp => ⟨fun pins s' σ H' Q I ⟨x, h⟩ => (ht s H C cl fp x (w.blk _ _ _ _ _)).run pins s' σ H' Q I h⟩,
    fun s H C cl fp => ⟨fun pins s' σ H' Q I ⟨x, h⟩ => (he s H C cl fp x (w.blk _ _ _ _ _)).run pins s' σ H' Q I h⟩, hs,
    fun σ H Q hl h => comp_weak X.N.length (fun H0 D0 H D Γ σ os x v Q hl hr rv k => ((hg X.s_0 X.H_0 0 [] []).ex w.nd (w.calm hc)).2 H0 D0 H D Γ σ os x v Q hl hr rv fun σ' os' hl' hw' hr' => k σ' os' hl' (hw' _ hsl) hr') σ H Q hl h⟩⟩
theorem E_comp {scope : Scope} {own : List (Str × Nat)} {B : Dt β} {r : M (List β)} (h : CompOk X G Γ elt tg it ifs scope own B r) (hc : G.c = true := by rfl) : ET X G Γ (.ListComp elt [⟨tg, it, ifs, 0⟩] scope pos) (T.own B) r := fun w => by
  obtain ⟨wi, g, tt, te, h1, h2, h3, h4, h5, h6, h7⟩ := h.ex w
  exact (pe_lc (w.calm hc) w.nd h1 h2 h3 h4 h5 h6).weakI h7
theorem frz_weak {K : Fr} {mg : Str → Option Value} {A : Dt α} {r : M (List α)} {σ : L2.St} {H : Hp} {Q : VK} (h : tE K mg G Γ (dat (tLst A)) r σ H Q) : tE K mg G Γ (own A) r σ H Q := by
  obtain ⟨H0, D0, D, os, hr, x, hx, hp⟩ := h
  refine ⟨H0, D0, D, os, hr, x, hx, ?_⟩
  cases x with
  | ex e => exact hp
  | ok xs =>
    intro v H' D' fp e ⟨p, vs, r1, r2, r3, r4⟩ f
    subst r1; subst r2
    obtain ⟨f1, f2, f3⟩ := f.2 p List.mem_cons_self
    have hup : Le D' (upd D' p (.lst vs)) := fun b o z => by rw [upd_ne (ne_of_none z f2)]; exact z
    refine hp (.ref p) H' (upd D' p (.lst vs)) [] ⟨e.h, e.d.trans hup, fun b o z => ?_, fun b h1 h2 => ?_⟩ ⟨rfl, p, vs, rfl, upd_same, A.monos hup r4⟩ .nil
    · by_cases q : b = p
      · subst q; rw [upd_same] at z; cases z; exact r3
      · rw [upd_ne q] at z; exact e.dh b o z
    · by_cases q : b = p
      · subst q; exact absurd f1 h2
      · rw [upd_ne q]; exact e.out b h1 h2
theorem S_compF (i : Nat) {y : Str} {py spos : Pos} {scope : Scope} {own : List (Str × Nat)} {B : Dt β} {r : M (List β)} (h : CompOk X G Γ elt tg it ifs scope own B r) (hc : G.c = true := by rfl) (hy : X.N[i]? = some y := by rfl) (hyl : X.env.scope.names.lookup y = some .local := by rfl)
    (hsw : swapsWith (.ListComp elt [⟨tg, it, ifs, 0⟩] scope pos) (some (.Name y py)) spos.line X.env = pure true := by exact sw_true rfl rfl rfl (by decide +kernel)) : JS X G Γ (.Assign [.Name y py] (.ListComp elt [⟨tg, it, ifs, 0⟩] scope pos) spos) R (fun a => .nx (put (eD i (tLst B) a) Γ)) r := fun w => by
  obtain ⟨wi, g, tt, te, h1, h2, h3, h4, h5, h6, h7⟩ := h.ex w
  refine (ps_setLc (w.calm hc) w.nd hy hyl hsw h1 h2 h3 h4 h5 h6).weakI fun E σ H hl ⟨H0, D0, D, os, hr, x, hx, hp⟩ => h7 σ H _ hl (frz_weak ⟨H0, D0, D, os, hr, x, hx, ?_⟩)
  cases x with
  | ex e => exact fun c d => hp c d σ
  | ok t =>
    intro v H' D' fp e r f
    have hi : i < σ.length := by rw [hl]; exact (List.getElem?_eq_some_iff.mp hy).1
    obtain ⟨os', q⟩ := (hr.grow e).put (st := dat_st (tLst B)) hi hr.ext.h (fun p h => (hr.own p h).2.2) r f
    exact hp _ H' D' os' q
end
/-! ### a def -/
structure DefAt (K : Fr) (mg : Str → Option Value) (x : Str) (st : Stmt) : Prop where
  ex : ∃ f fd, Fun K x x st f fd ∧ mg x = some (.ref f)
def fPost {ρ : Type} (R : Rp ρ) (x : Rs ρ) : Dest ρ → Prop
  | .rt a => x = .ok a
  | .nx _ => ∃ a, x = .ok a ∧ ∀ K H D, R.rep K H D [] a .non
  | _ => False
theorem fn_of' {P : Program} {w : World} {K : Fr} {mg : Str → Option Value} {base : Heap} {x : Str} {st : Stmt} {f : Addr} {fd : FuncData} {N ps : List Str} {k : Nat} {τ ρ θ : Type} {B : Ap τ} {R : Rp ρ} {m : τ → M ρ} (Z : θ → Dest ρ) (fin : M θ → M ρ) (F : Fun K x x st f fd) (S : FnScope N ps (defScope st)) (hl : B.len = ps.length)
    (hz : ∀ (r : M θ) (x : Rs ρ), fin r = some x → ∃ y, r = some y ∧ ((∃ t, y = .ok t ∧ fPost R x (Z t)) ∨ ∃ e, y = .ex e ∧ x = .ex e))
    (body : ∀ (cdv : Value) (A : Around) (outer : List Env) (s : Shared) (H : Hp) (E : XK) (t : τ), ∃ r, m t = fin r ∧
      JB (cxOf (L2.CX P w) P w K mg base N x (defScope st) f cdv A outer s H E) ⟨fun c d _ H => E c d H, [], k, true⟩ (B.view 0 t) (defBody st) R Z r) : FnOk P w K mg base (L2.CX P w) (k + 1) f fd ps (spT K mg B R m) := by
  refine F.okX S (fun vs H Q E ⟨D, t, _, ht, _⟩ => by rw [Ap.length ht, hl]) fun cdv A outer s H vs Q E hr ⟨D, t, le, ht, x, hx, hq⟩ => ?_
  obtain ⟨r, hmr, hJ⟩ := body cdv A outer s H E t
  obtain ⟨y, hy, hzy⟩ := hz r x (hmr ▸ hx)
  refine ⟨_, hJ ⟨takes_of rfl rfl rfl rfl, S.nd, fun _ => hr, fun _ => rfl, hr.units, passes_of rfl⟩, ?_⟩
  refine ⟨H, D, D, [], ⟨Ext.refl le, (fun _ z => nomatch z), List.nodup_nil, ?_⟩, y, hy, ?_⟩
  · exact Ap.hold (more := List.replicate (N.length - vs.length) none) [] ht
  · rcases hzy with ⟨t, rfl, hz⟩ | ⟨e, rfl, rfl⟩
    · refine jPost.of rfl ?_
      cases z : Z t with
      | rt a =>
        rw [z] at hz
        cases (show x = .ok a from hz)
        exact fun v H' D' fp e r f => hq v H' D' fp e r f
      | nx Γ' =>
        rw [z] at hz
        obtain ⟨a, rfl, ha⟩ := (show ∃ a, x = .ok a ∧ ∀ K H D, R.rep K H D [] a .non from hz)
        exact fun σ' H' D' os' r => hq .non H' D' [] r.ext (ha _ _ _) .nil
      | bk _ => rw [z] at hz; exact False.elim hz
      | ct _ => rw [z] at hz; exact False.elim hz
    · exact fun c d σ' H' D' os' r => hq c d H' D' r.ext
/-- a def that hands back on every way -/
theorem fn_ret {P : Program} {w : World} {K : Fr} {mg : Str → Option Value} {base : Heap} {x : Str} {st : Stmt} {f : Addr} {fd : FuncData} {N ps : List Str} {k : Nat} {τ ρ : Type} {B : Ap τ} {R : Rp ρ} {m : τ → M ρ} (F : Fun K x x st f fd) (S : FnScope N ps (defScope st)) (hl : B.len = ps.length)
    (body : ∀ (cdv : Value) (A : Around) (outer : List Env) (s : Shared) (H : Hp) (E : XK) (t : τ),
      JB (cxOf (L2.CX P w) P w K mg base N x (defScope st) f cdv A outer s H E) ⟨fun c d _ H => E c d H, [], k, true⟩ (B.view 0 t) (defBody st) R (fun a => .rt a) (m t)) : FnOk P w K mg base (L2.CX P w) (k + 1) f fd ps (spT K mg B R m) :=
  fn_of' (fun a => .rt a) (fun r => r) F S hl (fun r x hx => ⟨x, hx, by cases x with | ok a => exact .inl ⟨a, rfl, rfl⟩ | ex e => exact .inr ⟨e, rfl, rfl⟩⟩) fun cdv A outer s H E t => ⟨_, rfl, body cdv A outer s H E t⟩
/-- .. as its callers know it -/
theorem fx_ret {P : Program} {w : World} {K : Fr} {mg : Str → Option Value} {base : Heap} {x : Str} {st : Stmt} (N ps : List Str) {k : Nat} {τ ρ : Type} {B : Ap τ} {R : Rp ρ} {m : τ → M ρ} (h : DefAt K mg x st) (S : FnScope N ps (defScope st)) (hl : B.len = ps.length)
    (hb : ∀ (kV doc pm : Value) (an : Option Addr) (cdv ct : Value) (us : List Value), us.length = ps.length → bindArgs (PySem.W.fnOf x x (defArgs st) (defBody st) (defScope st) .none kV doc pm an cdv ct) ⟨us, []⟩ = pure (ps.zip us))
    (body : ∀ (cdv : Value) (f : Addr) (A : Around) (outer : List Env) (s : Shared) (H : Hp) (E : XK) (t : τ),
      JB (cxOf (L2.CX P w) P w K mg base N x (defScope st) f cdv A outer s H E) ⟨fun c d _ H => E c d H, [], k, true⟩ (B.view 0 t) (defBody st) R (fun a => .rt a) (m t)) : Fx P w K mg base x (k + 1) B R m := by
  obtain ⟨f, fd, F, hm⟩ := h.ex
  exact ⟨f, fd, ps, fn_ret F S hl fun cdv A outer s H E t => body cdv f A outer s H E t, hm, F.kp, F.binds hb⟩
theorem defAt_mk {K : Fr} {mg : Str → Option Value} {h : Heap} {x : Str} {st : Stmt} {f : Addr} {oc : Value} {od an : Option Addr} {osl : Array (Option Value)} {kV doc pm cdv ct : Value} (X : K.In h) (G : h.Ns mainGlobals mg) (a : PySem.W.nsIn K mainGlobals x = some (some (.ref f)))
    (l : K.lookup f = some ⟨oc, od, .func (PySem.W.fnOf x x (defArgs st) (defBody st) (defScope st) .none kV doc pm an cdv ct), osl⟩) (c : PySem.W.codeIn K cdv x = true) (k : PySem.W.keepIn K (.ref f) = true) : DefAt K mg x st :=
  ⟨f, _, fun_mk l c k, PySem.W.mg_of X G a⟩
/-- the law's promise, as the end wants it -/
def spLaw (K : Fr) : Sp := fun vs H Q _ => ∃ (a : Addr) (ns : List Int), vs = [.ref a] ∧ SqL K H a (ns.map V.int) ∧ ns.length ≤ 63 ∧ ∀ H', Q (.bl true) H'
theorem spLaw_of {K : Fr} {mg : Str → Option Value} {m : List Int × Unit → M Bool} (hm : ∀ ns : List Int, ns.length ≤ 63 → m (ns, ()) = ok true) (vs : List L2.V) (H : Hp) (Q : VK) (E : XK) (h : spLaw K vs H Q E) : spT K mg (.cons tScr .nil) (dat tBool) m vs H Q E := by
  obtain ⟨a, ns, rfl, hS, hl, q⟩ := h
  refine ⟨H, (ns, ()), Same.refl _, ⟨.ref a, [], rfl, ⟨a, rfl, hS⟩, rfl⟩, .ok true, hm ns hl, fun v H' D' fp e ⟨_, hv⟩ f => ?_⟩
  cases (show v = V.bl true from hv)
  exact q H'
theorem law_fd {P : Program} {w : World} {K : Fr} {mg : Str → Option Value} {st : Stmt} {x : Str} {k : Nat} {fa : Addr} {m : List Int × Unit → M Bool} (D : DefAt K mg "law" st) (hfa : mg "law" = some (.ref fa))
    (hb : ∀ (kV doc pm : Value) (an : Option Addr) (cdv ct : Value) (s : Shared) (u : Value), BindsTo s (PySem.W.fnOf "law" "law" (defArgs st) (defBody st) (defScope st) .none kV doc pm an cdv ct) ⟨[u], []⟩ [(x, u)])
    (hm : ∀ ns : List Int, ns.length ≤ 63 → m (ns, ()) = ok true)
    (F : ∀ (base : Heap) (f : Addr) (fd : FuncData), Fun K "law" "law" st f fd → FnOk P w K mg base (L2.CX P w) k f fd [x] (spT K mg (.cons tScr .nil) (dat tBool) m)) :
    ∃ fd : FuncData, (∀ (s : Shared) (u : Value), BindsTo s fd ⟨[u], []⟩ [(x, u)]) ∧ ∀ base : Heap, K.In base → base.Ns mainGlobals mg → FnOk P w K mg base (L2.CX P w) k fa fd [x] (spLaw K) := by
  obtain ⟨f, fd, Fn, hf⟩ := D.ex
  cases (hfa.symm.trans hf)
  refine ⟨fd, ?_, fun base _ _ => (F base fa fd Fn).imp (spLaw_of hm)⟩
  obtain ⟨oc, od, kV, doc, pm, an, cdv, ct, osl, rfl, lk, hcd⟩ := Fn.ex
  exact hb kV doc pm an cdv ct
theorem cx_no {P : Program} {w : World} (H : Hp) (s : Shared) (e : Value) (s' : Shared) : L2.CX P w [] H s (fun _ _ _ => False) e s' → False := fun h => by
  obtain ⟨_, _, _, _, _, _, _, _, _, _, _, _, z⟩ := h
  exact z.elim
end T
set_option maxRecDepth 100000
set_option maxHeartbeats 4000000
namespace T
open PySem PySem.Spec PyProof.Rows L2
/-! ### data, compared -/
structure Enc {α : Type} [DecidableEq α] (A : Dt α) where
  toD : α → PyData
  dp : ∀ {K : Fr} {H : Hp} {a : α} {v : L2.V}, A.rep K H a v → Dp K H v (toD a)
  plain : ∀ a, (toD a).plain = true
  eqv : ∀ a b, PyData.eqv (toD a) (toD b) = decide (a = b)
  depth : Nat
  depth_le : ∀ a, (toD a).depth ≤ depth
def eInt : Enc tInt := ⟨PyData.int, fun {K H a v} h => by cases (show v = V.int a from h); exact .int a, fun _ => rfl, fun a b => by simp only [PyData.eqv]; exact PySem.W.beq_decide a b, 0, fun _ => Nat.le_refl _⟩
def eStr : Enc tStr := ⟨PyData.str, fun {K H a v} h => by cases (show v = V.str a from h); exact .str a, fun _ => rfl, fun a b => by simp only [PyData.eqv]; exact PySem.W.beq_decide a b, 0, fun _ => Nat.le_refl _⟩
section
variable {α β γ : Type} [DecidableEq α] [DecidableEq β] [DecidableEq γ] {A : Dt α} {B : Dt β} {C : Dt γ}
theorem Enc.dps (e : Enc A) {K : Fr} {H : Hp} : ∀ {xs : List α} {vs : List L2.V}, Paired (A.rep K H) xs vs → DpAll K H vs (xs.map e.toD)
  | _, _, .nil => .nil
  | _, _, .cons r t => .cons (e.dp r) (Enc.dps e t)
theorem Enc.plains (e : Enc A) : ∀ xs : List α, PyData.plainAll (xs.map e.toD) = true
  | [] => rfl
  | x :: xs => by rw [List.map_cons, PyData.plainAll, e.plain x, Enc.plains e xs]; rfl
theorem Enc.depths (e : Enc A) : ∀ xs : List α, PyData.depthAll (xs.map e.toD) ≤ e.depth
  | [] => Nat.zero_le _
  | x :: xs => by rw [List.map_cons, PyData.depthAll]; exact Nat.max_le.mpr ⟨e.depth_le x, Enc.depths e xs⟩
theorem Enc.eqvs (e : Enc A) : ∀ xs ys : List α, PyData.eqvAll (xs.map e.toD) (ys.map e.toD) = decide (xs = ys)
  | [], [] => by simp only [List.map_nil, PyData.eqvAll, decide_true]
  | [], _ :: _ => by simp [PyData.eqvAll]
  | _ :: _, [] => by simp [PyData.eqvAll]
  | x :: xs, y :: ys => by
    rw [List.map_cons, List.map_cons, PyData.eqvAll, e.eqv x y, Enc.eqvs e xs ys, ← Bool.decide_and]
    exact decide_eq_decide.mpr (by rw [List.cons.injEq])
def eRow (e : Enc A) : Enc (tRow A) := ⟨fun xs => .tuple (xs.map e.toD), fun {K H a v} h => by
    obtain ⟨p, vs, rfl, h1, h2⟩ := h
    exact .tup h1 (e.dps h2), fun xs => by simp only [PyData.plain]; exact e.plains xs, fun xs ys => by simp only [PyData.eqv]; exact e.eqvs xs ys, e.depth + 1, fun xs => by simp only [PyData.depth]; exact Nat.succ_le_succ (e.depths xs)⟩
def eLst (e : Enc A) : Enc (tLst A) := ⟨fun xs => .list (xs.map e.toD), fun {K H a v} h => by
    obtain ⟨p, vs, rfl, h1, h2⟩ := h
    exact .lst (SqL.of h1) (e.dps h2), fun xs => by simp only [PyData.plain]; exact e.plains xs, fun xs ys => by simp only [PyData.eqv]; exact e.eqvs xs ys, e.depth + 1, fun xs => by simp only [PyData.depth]; exact Nat.succ_le_succ (e.depths xs)⟩
def eRec2 (e : Enc A) (f : Enc B) : Enc (tRec2 A B) := ⟨fun x => .tuple [e.toD x.1, f.toD x.2], fun {K H a v} h => by
    obtain ⟨p, v1, v2, rfl, h1, h2, h3⟩ := h
    exact .tup h1 (.cons (e.dp h2) (.cons (f.dp h3) .nil)), fun x => by simp only [PyData.plain, PyData.plainAll, e.plain, f.plain, Bool.and_self], fun p q => by
    simp only [PyData.eqv, PyData.eqvAll]
    rw [e.eqv, f.eqv, Bool.and_true, ← Bool.decide_and]
    exact decide_eq_decide.mpr ⟨fun e => Prod.ext e.1 e.2, fun e => by rw [e]; exact ⟨rfl, rfl⟩⟩, max e.depth f.depth + 1, fun x => by
    simp only [PyData.depth, PyData.depthAll]
    refine Nat.succ_le_succ (Nat.max_le.mpr ⟨Nat.le_trans (e.depth_le x.1) (Nat.le_max_left _ _), Nat.max_le.mpr ⟨Nat.le_trans (f.depth_le x.2) (Nat.le_max_right _ _), Nat.zero_le _⟩⟩)⟩
/-- a reading as data -/
def RepD (R : Rp α) (toD : α → PyData) : Prop := ∀ {K : Fr} {H D : Hp} {fp : List Addr} {a : α} {v : L2.V}, Le D H → R.rep K H D fp a v → Dp K H v (toD a)
theorem SqLT.mono {K : Fr} {H H' : Hp} (e : Le H H') : True := trivial
mutual
theorem Dp.mono {K : Fr} {H H' : Hp} (e : Le H H') : ∀ {v : L2.V} {d : PyData}, Dp K H v d → Dp K H' v d
  | _, _, .non => .non
  | _, _, .bl b => .bl b
  | _, _, .int i => .int i
  | _, _, .str x => .str x
  | _, _, .lst h1 h2 => .lst (Same.seq e h1) (DpAll.mono e h2)
  | _, _, .tup h1 h2 => .tup (SqT.mono e h1) (DpAll.mono e h2)
theorem DpAll.mono {K : Fr} {H H' : Hp} (e : Le H H') : ∀ {vs : List L2.V} {ds : List PyData}, DpAll K H vs ds → DpAll K H' vs ds
  | _, _, .nil => .nil
  | _, _, .cons h1 h2 => .cons (Dp.mono e h1) (DpAll.mono e h2)
end
theorem repD_dat (e : Enc A) : RepD (dat A) e.toD := fun le h => Dp.mono le (e.dp h.2)
theorem repD_bor (e : Enc A) : RepD (bor A) (eLst e).toD := fun le ⟨_, p, vs, h1, h2, h3⟩ => by
  subst h1
  exact .lst h2 (DpAll.mono le (e.dps h3))
end
section
variable {X : Cx} {G : Ctx} {Γ : Vw} {α β γ : Type} {a b c : Expr} {pos : Pos}
def rEqP (K : Fr) (k : Nat) : R2 := fun x y H Q => ∃ d e, Dp K H x d ∧ Dp K H y e ∧ d.plain = true ∧ e.plain = true ∧ d.depth ≤ k ∧ Q (.bl (PyData.eqv d e)) H
def rNeP (K : Fr) (k : Nat) : R2 := fun x y H Q => ∃ d e, Dp K H x d ∧ Dp K H y e ∧ d.plain = true ∧ e.plain = true ∧ d.depth ≤ k ∧ Q (.bl (!PyData.eqv d e)) H
theorem op_eqP {k : Nat} (hu : X.A.units + k < cLine) : OpR X (compareOp .Eq) (rEqP X.K k) := by
  intro pins s σ H x y v u Q I rx ry ⟨d, e, hd, he, sd, se, dk, q⟩
  obtain ⟨as, r1⟩ := Dp.reads I d x v hd rx
  obtain ⟨bs, r2⟩ := Dp.reads I e y u he ry
  exact PySem.SeqAt.eq_plain r1 r2 sd se (PySem.W.room_datum dk hu) ⟨.bl _, H, I, rfl, q⟩
theorem op_neP {k : Nat} (hu : X.A.units + k < cLine) : OpR X (compareOp .NotEq) (rNeP X.K k) := by
  intro pins s σ H x y v u Q I rx ry ⟨d, e, hd, he, sd, se, dk, q⟩
  obtain ⟨as, r1⟩ := Dp.reads I d x v hd rx
  obtain ⟨bs, r2⟩ := Dp.reads I e y u he ry
  exact PySem.SeqAt.ne_plain r1 r2 sd se (PySem.W.room_datum dk hu) ⟨.bl _, H, I, rfl, q⟩
theorem Wf.un (w : Wf X G) {k : Nat} (h : k ≤ 60) : X.A.units + k < cLine := by have := w.hu; omega
variable [DecidableEq α]
theorem cp_eqP (K : Fr) {A : Dt α} {R R' : Rp α} (e : Enc A) (h1 : RepD R e.toD) (h2 : RepD R' e.toD) : Cp2 K (rEqP K e.depth) R R' fun x y => decide (x = y) := fun H D a b va vb fa fb Q le r1 r2 q =>
  ⟨e.toD a, e.toD b, h1 le r1, h2 le r2, e.plain a, e.plain b, e.depth_le a, by rw [e.eqv]; exact q⟩
theorem cp_neP (K : Fr) {A : Dt α} {R R' : Rp α} (e : Enc A) (h1 : RepD R e.toD) (h2 : RepD R' e.toD) : Cp2 K (rNeP K e.depth) R R' fun x y => !decide (x = y) := fun H D a b va vb fa fb Q le r1 r2 q =>
  ⟨e.toD a, e.toD b, h1 le r1, h2 le r2, e.plain a, e.plain b, e.depth_le a, by rw [e.eqv]; exact q⟩
theorem E_eqP {A : Dt α} {R R' : Rp α} {ra rb : M α} (e : Enc A) (h1 : RepD R e.toD) (h2 : RepD R' e.toD) (hd : e.depth ≤ 60) (ha : ET X G Γ a R ra) (hb : ET X G Γ b R' rb) : ET X G Γ (.Compare a [.Eq] [b] pos) (dat tBool) (ra.bind fun x => rb.bind fun y => ok (decide (x = y))) := fun w =>
  E_cmp (op_eqP (w.un hd)) (cp_eqP X.K e h1 h2) (nomark _) ha hb w
theorem E_neP {A : Dt α} {R R' : Rp α} {ra rb : M α} (e : Enc A) (h1 : RepD R e.toD) (h2 : RepD R' e.toD) (hd : e.depth ≤ 60) (ha : ET X G Γ a R ra) (hb : ET X G Γ b R' rb) : ET X G Γ (.Compare a [.NotEq] [b] pos) (dat tBool) (ra.bind fun x => rb.bind fun y => ok (!decide (x = y))) := fun w =>
  E_cmp (op_neP (w.un hd)) (cp_neP X.K e h1 h2) (nomark _) ha hb w
theorem B_eqP {A : Dt α} {R R' : Rp α} {ra rb : M α} (e : Enc A) (h1 : RepD R e.toD) (h2 : RepD R' e.toD) (hd : e.depth ≤ 60) (ha : ET X G Γ a R ra) (hb : ET X G Γ b R' rb) : BT X G Γ (.Compare a [.Eq] [b] pos) (ra.bind fun x => rb.bind fun y => ok (decide (x = y))) := fun w =>
  B_cmp (op_eqP (w.un hd)) (cp_eqP X.K e h1 h2) (nomark _) ha hb w
theorem B_neP {A : Dt α} {R R' : Rp α} {ra rb : M α} (e : Enc A) (h1 : RepD R e.toD) (h2 : RepD R' e.toD) (hd : e.depth ≤ 60) (ha : ET X G Γ a R ra) (hb : ET X G Γ b R' rb) : BT X G Γ (.Compare a [.NotEq] [b] pos) (ra.bind fun x => rb.bind fun y => ok (!decide (x = y))) := fun w =>
  B_cmp (op_neP (w.un hd)) (cp_neP X.K e h1 h2) (nomark _) ha hb w
/-! x in xs -/
end
/-! ### isinstance of built-in classes -/
section
variable {X : Cx} {G : Ctx} {Γ : Vw} {α β γ : Type} {a b c : Expr} {pos : Pos}
def IsTy (A : Dt α) (T : String) : Prop := ∀ (K : Fr) (H : Hp) (x : α) (v : L2.V), A.rep K H x v → TyX K H v (.type T)
theorem ty_int : IsTy tInt "int" := fun K H x v h => by cases (show v = V.int x from h); exact .base (.int x)
theorem sqt_ty {K : Fr} {H : Hp} {p : Addr} {vs : List L2.V} (h : SqT K H p vs) : TyX K H (.ref p) (.type "tuple") := by
  rcases h with (h | ⟨o, h⟩) | ⟨o, its, n, h1, h2, _⟩
  · exact .base (.tup h)
  · exact .fTuple h
  · exact .kTuple h1 h2
theorem ty_row (A : Dt α) : IsTy (tRow A) "tuple" := fun K H x v ⟨p, vs, e, h, _⟩ => by subst e; exact sqt_ty h
theorem ty_lst (A : Dt α) : IsTy (tLst A) "list" := fun K H x v ⟨p, vs, e, h, _⟩ => by subst e; exact .base (.lst h)
theorem ty_rec2 (A : Dt α) (B : Dt β) : IsTy (tRec2 A B) "tuple" := fun K H x v ⟨p, v1, v2, e, h, _⟩ => by subst e; exact sqt_ty h
theorem TyX.mono {K : Fr} {H H' : Hp} {v : L2.V} {T : String} (e : Le H H') : TyX K H v (.type T) → TyX K H' v (.type T) := by
  intro h
  cases h with
  | base h =>
    cases h with
    | non => exact .base .non
    | bl b => exact .base (.bl b)
    | int i => exact .base (.int i)
    | str x => exact .base (.str x)
    | flt b => exact .base (.flt b)
    | lst h => exact .base (.lst (e _ _ h))
    | frz h => exact .base (.frz (e _ _ h))
    | tup h => exact .base (.tup (e _ _ h))
    | dK h => exact .base (.dK (e _ _ h))
    | dT h => exact .base (.dT (e _ _ h))
  | byt b => exact .byt b
  | set h => exact .set (e _ _ h)
  | kList h c => exact .kList h c
  | kTuple h c => exact .kTuple h c
  | kDict h c => exact .kDict h c
  | fTuple h => exact .fTuple (e _ _ h)
  | fDict h => exact .fDict (e _ _ h)
/-- a built-in class as a value -/
def tyR (C : String) : Rp Unit := ⟨fun _ _ _ fp _ v => fp = [] ∧ v = .ty C, fun _ _ h => h⟩
theorem E_ty {x : Str} (C : String) (hm : X.mg x = none) (hv : bootBuiltins x = some (.type C)) (hg : Gl X x := by rfl) (hn : x ≠ "__name__" := by decide) (hd : (x == ("__debug__" : Str)) = false := by decide) : ET X G Γ (.Name x pos) (tyR C) (ok ()) := fun w =>
  (pe_bltn (v := .ty C) hg hm hv rfl hn hd).weak fun σ H Q ⟨H0, D0, D, os, hr, x, hx, hp⟩ => by
    cases hx
    exact hp (.ty C) H D [] (Ext.refl hr.le) ⟨rfl, rfl⟩ .nil
theorem E_isi {A : Dt α} {T0 C : String} {x : Str} {r : Bool} {ra : M α} {p p2 : Pos} (hT : IsTy A T0) (hk : kitB T0 C = some r) (hm : X.mg "isinstance" = none) (hm2 : X.mg x = none) (hv : bootBuiltins x = some (.type C)) (ha : ET X G Γ a (dat A) ra)
    (hg : Gl X "isinstance" := by rfl) (hg2 : Gl X x := by rfl) (hn : x ≠ "__name__" := by decide) (hd : (x == ("__debug__" : Str)) = false := by decide)
    (hs1 : starEach [a, .Name x p2] X.env = (false, eval a X.env) :: starEach [.Name x p2] X.env := by rfl) (hs2 : starEach [.Name x p2] X.env = [(false, eval (.Name x p2) X.env)] := by rfl) (hpl : (backTo pos (starEach [.Name x p2] X.env)).any (·.1) = false := by rfl) :
    ET X G Γ (.Call (.Name "isinstance" p) [a, .Name x p2] [] pos) (dat tBool) (ra.bind fun _ => ok r) :=
  E_eq (E_bi2 (A := dat A) (B := tyR C) (R := dat tBool) (g := fun _ _ => ok r) call_isi (fun H D a b va vb fa fb c Q le ⟨_, h1⟩ ⟨_, h2⟩ hg k => by
    cases hg
    cases h2
    exact ⟨va, .ty C, _, _, r, rfl, .ty C, TyX.mono le (hT _ _ _ _ h1), kit_ty hk, k _ H D [] (Ext.refl le) ⟨rfl, rfl⟩ .nil⟩) nxok2 hm (by decide +kernel) ha (E_ty C hm2 hv hg2 hn hd) hg (by decide) (by decide) hs1 hs2 hpl) rfl
end
end T
set_option maxRecDepth 100000
set_option maxHeartbeats 4000000
namespace T
open PySem PySem.Spec PyProof.Rows L2
section
variable {X : Cx} {G : Ctx} {Γ : Vw} {α β γ δ τ ρ θ C C' : Type} {a b c e it tg : Expr} {pos : Pos} {st : Stmt} {rest B : List Stmt} {R : Rp ρ} {Z : θ → Dest ρ}
/-- a list of one's own is changed no more -/
theorem Rel.frz {K : Fr} {H0 D0 H D : Hp} {σ : L2.St} {os : List Addr} {i : Nat} {A : Dt α} {xs : List α} (hf : find i Γ = some (eO i A xs)) (r : Rel K H0 D0 Γ σ H D os) : ∃ D' os', Rel K H0 D0 (T.put (eD i (tLst A) xs) Γ) σ H D' os' ∧ Le D D' := by
  obtain ⟨fp, os', v, q1, ⟨p, vs, rfl, rfl, r3, r4⟩, q3, q4, q5⟩ := r.hold.find hf r.nd
  obtain ⟨h1, h2, h3⟩ := r.own p (q5 p (List.mem_append_left _ List.mem_cons_self))
  have hup : Le D (L2.upd D p (.lst vs)) := fun b o z => by rw [upd_ne (ne_of_none z h2)]; exact z
  have nd' := List.nodup_cons.mp q4
  refine ⟨L2.upd D p (.lst vs), os', ⟨⟨r.ext.h, r.ext.d.trans hup, fun b o z => ?_, fun b z1 z2 => ?_⟩, fun x hx => ?_, nd'.2, ⟨[], os', rfl, ⟨.ref p, q1, rfl, p, vs, rfl, upd_same, A.monos hup r4⟩, q3.agree (fun _ _ => rfl) hup⟩⟩, hup⟩
  · by_cases q : b = p
    · subst q; rw [upd_same] at z; cases z; exact r3
    · rw [upd_ne q] at z; exact r.ext.dh b o z
  · by_cases q : b = p
    · subst q; exact absurd h1 z2
    · rw [upd_ne q]; exact r.ext.out b z1 z2
  · obtain ⟨m1, m2, m3⟩ := r.own x (q5 x (List.mem_append_right _ hx))
    have : x ≠ p := fun z => nd'.1 (z ▸ hx)
    exact ⟨m1, by rw [upd_ne this]; exact m2, m3⟩
theorem psz_w {xs : List α} (h : Nat.ble xs.length 16777216 = true) : psz xs = ok xs := grd_pos (by rw [sizeLine_eq]; exact Nat.le_of_ble_eq_true h) _
/-! ### more numbers -/
theorem E_mulK {i j c : Int} (h : MulOk i j) (hc : i * j = c) (ha : ET X G Γ a (dat tInt) (ok i)) (hb : ET X G Γ b (dat tInt) (ok j)) : ET X G Γ (.BinOp a .Mult b pos) (dat tInt) (ok c) :=
  E_eq (E_mul ha hb) (by show grd _ _ = _; rw [grd_pos h, hc])
theorem E_powK {i c : Int} (n : Nat) (h : i.natAbs < 2 ^ 64) (hn : n ≤ 1000000) (hc : i ^ n = c) (ha : ET X G Γ a (dat tInt) (ok i)) (hb : ET X G Γ b (dat tInt) (ok (n : Int))) : ET X G Γ (.BinOp a .Pow b pos) (dat tInt) (ok c) :=
  E_eq (E_powC n h hn ha hb) (by rw [hc])
def prangeI (j : Int) : M (List Int) := grd (-(2 ^ 62) ≤ j) (prange j)
theorem prangeI_nat {n : Nat} (h : n < 2 ^ 62) : prangeI (n : Int) = ok (rangeL 0 n) := by
  have h1 : -(2 ^ 62 : Int) ≤ (n : Int) := Int.le_trans (by decide) (Int.natCast_nonneg n)
  have h2 : (n : Int) < 2 ^ 62 := by
    have : ((2 ^ 62 : Nat) : Int) = 2 ^ 62 := by decide
    rw [← this]; exact Int.ofNat_lt.mpr h
  show grd _ (grd _ _) = _
  rw [grd_pos h1, grd_pos h2, Int.toNat_natCast]
theorem I_rangeI {ra : M Int} {p : Pos} (hm : X.mg "range" = none) (ha : ET X G Γ a (dat tInt) ra) (hg : Gl X "range" := by rfl) (hs : starEach [a] X.env = [(false, eval a X.env)] := by rfl) : ITR X G Γ tg (.Call (.Name "range" p) [a] [] pos) tInt (ra.bind prangeI) := I_range hm ha hg hs
theorem C_map {scope : Scope} {own : List (Str × Nat)} {sl : List Nat} {elt : Expr} {A : Dt α} {B : Dt β} {u : α → Vw → Vw} {g : TG} {ri : M (List α)} {f : α → M β} (hi : ITR X G Γ tg it A ri)
    (hg : ∀ (s : Shared) (H : Hp) (C : Addr) (cl : List (Str × Addr)) (fp : List Addr), GT (X.blk s H scope (compEnvC scope cl C X.env) fp) tg sl A u g)
    (he : ∀ (s : Shared) (H : Hp) (C : Addr) (cl : List (Str × Addr)) (fp : List Addr) (x : α), ET (X.blk s H scope (compEnvC scope cl C X.env) fp) G.blk (u x (rmvs (own.map (·.2)) Γ)) elt (dat B) (f x))
    (hc : G.c = true := by rfl)
    (hok : blkC X.N X.env.scope scope own = true := by decide +kernel) (hsl : ∀ i ∈ sl, i ∈ own.map (·.2) := by decide) (hs : ∀ x, foldedSetIterable it X.env x = pure x := by intro _; rfl) : CompOk X G Γ elt tg it [] scope own B (ri.bind fun xs => mapC f xs) :=
  C_comp hi hg (fun _ _ _ _ _ _ => Bs_nil) he hc hok hsl hs
/-! ### None -/
/-! ### sum, all, any -/
theorem Paired.toBls {K : Fr} {D : Hp} : ∀ {xs : List Bool} {vs : List L2.V}, Paired (tBool.rep K D) xs vs → vs = xs.map V.bl
  | _, _, .nil => rfl
  | _, _, .cons r t => by rw [List.map_cons, ← Paired.toBls t]; exact congrArg (· :: _) r
theorem E_all {ra : M (List Bool)} {p : Pos} (hm : X.mg "all" = none) (ha : ET X G Γ a (bor tBool) ra) (hc : G.c = true := by rfl) (hg : Gl X "all" := by rfl) (hs1 : starEach [a] X.env = [(false, eval a X.env)] := by rfl) : ET X G Γ (.Call (.Name "all" p) [a] [] pos) (dat tBool) (ra.bind fun x => ok (x.all id)) := fun w =>
  E_bi1 (A := bor tBool) (R := dat tBool) (cr_all (w.calm hc)) (fun H D a va fa c Q le ⟨_, p, vs, z, h1, h2⟩ hg k => by
    cases hg
    have := Paired.toBls h2
    subst this
    exact ⟨p, a, by rw [z], h1, k _ H D [] (Ext.refl le) ⟨rfl, rfl⟩ .nil⟩) nxok hm (by decide +kernel) ha hg (by decide) (by decide) hs1 rfl w
/-! ### tuples of any length -/
theorem E_slT {A : Dt α} {ra : M (List α)} {rl rh : M (Option Int)} {lo hi : Option Expr} {p2 : Pos} (ha : ET X G Γ a (dat (tRow A)) ra) (hl : OT X G Γ lo rl) (hh : OT X G Γ hi rh) :
    ET X G Γ (.Subscript a (.Slice lo hi none p2) pos) (dat (tRow A)) (ra.bind fun x => rl.bind fun l => rh.bind fun h => ok (cutL x l h)) :=
  E_sl (A := dat (tRow A)) (Q' := dat (tRow A)) (g := fun x l h => ok (cutL x l h)) sl_tupA ha hl hh (fun _ _ _ _ z => nomatch z) fun H D x v f l h c Q le ⟨_, p, vs, z, h1, h2⟩ hg k => by
    cases hg
    refine ⟨p, vs, z, SqT.mono le h1, fun ⟨e1, e2⟩ => ?_, fun _ q nq => row_new le nq (cutV_paired h2 l h) k⟩
    have : cutL x l h = x := by
      unfold cutL
      rw [h2.length, e1, e2, List.drop_zero, ← h2.length]
      exact List.take_of_length_le (by omega)
    rw [this] at k
    exact k _ H D [] (Ext.refl le) ⟨rfl, p, vs, rfl, h1, h2⟩ .nil
/-! places of a record of three -/
end
end T
set_option maxRecDepth 100000
set_option maxHeartbeats 4000000
namespace HT
open PySem PySem.Spec PyProof.Rows
section
variable {prog : Program} {w : World} {A : Around} {E : Value → Shared → Prop} {s : Shared}
end
end HT
namespace L2
open PySem PySem.Spec PyProof.Rows
section
variable {X : Cx}
end
end L2
namespace T
open PySem PySem.Spec PyProof.Rows L2
section
variable {X : Cx} {G : Ctx} {Γ : Vw} {α β γ δ τ ρ θ C C' : Type} {a b c e it tg : Expr} {pos : Pos} {st : Stmt} {rest B : List Stmt} {R : Rp ρ} {Z : θ → Dest ρ}
end
end T
set_option maxRecDepth 100000
set_option maxHeartbeats 4000000
namespace L2
open PySem PySem.Spec PyProof.Rows
section
variable {X : Cx}
end
end L2
namespace T
open PySem PySem.Spec PyProof.Rows L2
/-- i, i - 1, .. n of them -/
def rangeD (lo : Int) (n : Nat) : List Int := (List.range n).map fun i : Nat => lo - (i : Int)
theorem rangeD_get (lo : Int) (n i : Nat) : (rangeD lo n)[i]? = if i < n then some (lo - (i : Int)) else none := by
  unfold rangeD
  by_cases h : i < n
  · simp [h]
  · simp [h]
theorem rangeD_len (lo : Int) (n : Nat) : (rangeD lo n).length = n := by simp [rangeD]
section
variable {X : Cx} {G : Ctx} {Γ : Vw} {α β γ δ τ ρ θ C C' : Type} {a b c e it tg : Expr} {pos : Pos} {st : Stmt} {rest B : List Stmt} {R : Rp ρ} {Z : θ → Dest ρ}
def prangeD (i j : Int) : M (List Int) := grd (-(2 ^ 62) ≤ i ∧ i < 2 ^ 62 ∧ -(2 ^ 62) ≤ j ∧ j < 2 ^ 62) (ok (rangeD i (i - j).toNat))
end
end T
set_option maxRecDepth 100000
set_option maxHeartbeats 4000000
namespace T
open PySem PySem.Spec PyProof.Rows L2
section
variable {X : Cx} {G : Ctx} {Γ : Vw} {α β γ δ τ ρ θ C C' : Type} {a b c e it tg : Expr} {pos : Pos} {st : Stmt} {rest B : List Stmt} {R : Rp ρ} {Z : θ → Dest ρ}
theorem G_rec2K (K0 : Fr) {t1 t2 : Expr} {s1 s2 : List Nat} {A : Dt α} {B : Dt β} {u1 : α → Vw → Vw} {u2 : β → Vw → Vw} {g1 g2 : TG} {k : Nat} {p : Pos} (h1 : GT X t1 s1 A u1 g1) (h2 : GT X t2 s2 B u2 g2) (hK : X.K = K0 := by rfl)
    (hs1 : (assignEach [t1, t2] X.env).map (·.2) = assign t1 X.env :: (assignEach [t2] X.env).map (·.2) := by rfl) (hs2 : (assignEach [t2] X.env).map (·.2) = assign t2 X.env :: (assignEach [] X.env).map (·.2) := by rfl)
    (hn : (assignEach [t1, t2] X.env).length = 2 := by rfl) (hst : (assignEach [t1, t2] X.env).findIdx? (·.1) = none := by rfl) : GT X (.Tuple [t1, t2] k p) (s1 ++ s2) (tRec2 A B) (fun x Γ => u2 x.2 (u1 x.1 Γ)) (gTup K0 2 (gCons g1 (gCons g2 gNil))) := by
  subst hK; exact G_rec2 h1 h2 hs1 hs2 hn hst
theorem E_lenR2 {A : Dt α} {B : Dt β} {ra : M (α × β)} {p : Pos} (hm : X.mg "len" = none) (ha : ET X G Γ a (dat (tRec2 A B)) ra) (hg : Gl X "len" := by rfl) (hs1 : starEach [a] X.env = [(false, eval a X.env)] := by rfl) :
    ET X G Γ (.Call (.Name "len" p) [a] [] pos) (dat tInt) (ra.bind fun _ => ok 2) := E_bi1 (A := dat (tRec2 A B)) (R := dat tInt) (g := fun _ => ok 2) call_len_seq (fun H D a va fa c Q le ⟨_, p, v1, v2, z, h1, h2⟩ hg k => by
    cases hg
    exact ⟨p, _, by rw [z], .inr (SqT.mono le h1), k _ H D [] (Ext.refl le) ⟨rfl, rfl⟩ .nil⟩) nxok hm PySem.boot_len ha hg (by decide) (by decide) hs1 rfl
end
end T
set_option maxRecDepth 100000
set_option maxHeartbeats 4000000
namespace T
open PySem PySem.Spec PyProof.Rows L2
theorem Paired.dropLast {α : Type} {F : α → L2.V → Prop} : ∀ {xs : List α} {vs : List L2.V}, Paired F xs vs → Paired F xs.dropLast vs.dropLast
  | _, _, .nil => .nil
  | _, _, .cons r .nil => .nil
  | _, _, .cons r (.cons r2 t) => .cons r (Paired.dropLast (.cons r2 t))
section
variable {X : Cx} {G : Ctx} {Γ : Vw} {α β γ δ τ ρ θ C C' : Type} {a b c e it tg : Expr} {pos : Pos} {st : Stmt} {rest B : List Stmt} {R : Rp ρ} {Z : θ → Dest ρ}
end
end T
namespace T
open PySem PySem.Spec PyProof.Rows L2
/-! ### constants of a module -/
theorem Paired.strs {K : Fr} {D : Hp} : ∀ {xs : List Str}, Paired (tStr.rep K D) xs (xs.map V.str)
  | [] => .nil
  | x :: xs => .cons rfl (Paired.strs (xs := xs))
section
variable {K : Fr} {mg : Str → Option Value} {h : Heap} {x : Str} {A : Addr} {od : Option Addr} {its : Array Value} {n : Nat} {sl : Array (Option Value)}
theorem globD_int {i : Int} {t : Tok} (X : K.In h) (G : h.Ns mainGlobals mg) (a : PySem.W.nsIn K mainGlobals x = some (some (.int i t))) : GlobD K mg x tInt i :=
  ⟨_, .int i, PySem.W.mg_of X G a, ⟨t, rfl⟩, fun _ => rfl⟩
theorem globD_str {i : Str} {t : Tok} (X : K.In h) (G : h.Ns mainGlobals mg) (a : PySem.W.nsIn K mainGlobals x = some (some (.str i t))) : GlobD K mg x tStr i :=
  ⟨_, .str i, PySem.W.mg_of X G a, ⟨t, rfl⟩, fun _ => rfl⟩
end
end T
set_option maxRecDepth 100000
set_option maxHeartbeats 4000000
namespace T
open PySem PySem.Spec PyProof.Rows L2
def asRec4 {α : Type} : List α → M (α × α × α × α)
  | [a, b, c, d] => ok (a, b, c, d)
  | _ => stuck
section
variable {X : Cx} {G : Ctx} {Γ : Vw} {α β γ δ τ ρ θ C C' : Type} {a b c e it tg : Expr} {pos : Pos} {st : Stmt} {rest B : List Stmt} {R : Rp ρ} {Z : θ → Dest ρ}
end
end T
set_option maxRecDepth 100000
set_option maxHeartbeats 4000000
namespace T
open PySem PySem.Spec PyProof.Rows L2
/-! ### exceptions of the program's own -/
/-- an own class without an own __init__ -/
structure XPl (K : Fr) (mg : Str → Option Value) (x : Str) : Prop where
  ex : ∃ C, mg x = some (.ref C) ∧ PySem.W.excIn K C [.type "ValueError", .type "Exception", .type "BaseException", .type "object"] "ValueError.__new__" = true ∧ PySem.W.keepIn K (.ref C) = true ∧
    PySem.W.subIn K (.ref C) (.type "BaseException") = some true ∧ PySem.W.typeIn K (.ref C) = some (.type "type")
section
variable {X : Cx} {G : Ctx} {Γ : Vw} {α β γ δ τ ρ θ C C' : Type} {a b c e it tg : Expr} {pos : Pos} {st : Stmt} {rest B : List Stmt} {R : Rp ρ} {Z : θ → Dest ρ}
theorem S_raise {x m : Str} {j : Nat} {p p2 p3 : Pos} (F : XPl X.K X.mg x) (is : List Nat) (hv : pick is Γ = G.Vx := by rfl) (hc : G.c = true := by rfl) (hg : Gl X x := by rfl) (hd : (x == ("__debug__" : Str)) = false := by decide) :
    JS X G Γ (.Raise (some (.Call (.Name x p) [.Constant (.str m) j p2] [] p3)) none pos) R Z (exc ⟨x, []⟩ : M θ) := fun w => by
  obtain ⟨Cl, hm, xP, kP, bP, tP⟩ := F.ex
  refine (ps_raise (w.calm hc) w.tk (pmk_own PySem.F.excBase_ValueError xP hm kP (raises_own bP tP) hg hd)).weak fun E σ H ⟨H0, D0, D, os, hr, y, hx, hp⟩ => ?_
  cases hx
  obtain ⟨os', q⟩ := hr.pick is
  rw [hv] at q
  exact hp (.ref Cl) none σ H D os' q ⟨Cl, hm, rfl, rfl⟩
end
section
variable {X : Cx} {G : Ctx} {Γ : Vw} {α β γ δ τ ρ θ C C' : Type} {a b c e it tg : Expr} {pos : Pos} {st : Stmt} {rest B : List Stmt} {R : Rp ρ} {Z : θ → Dest ρ}
/-! ### try .. except X -/
/-- which of the classes named in the table stand under x -/
structure XSub (K : Fr) (mg : Str → Option Value) (x : Str) (tbl : List (Str × Bool)) : Prop where
  ex : ∃ C, mg x = some (.ref C) ∧ ∀ n b, tbl.lookup n = some b → ∀ Cn, mg n = some (.ref Cn) → PySem.W.exmOne K (.ref Cn) (.ref C) = some b
end
end T
set_option maxRecDepth 100000
set_option maxHeartbeats 4000000
namespace T
open PySem PySem.Spec PyProof.Rows L2
/-! ### objects with fields, made once -/
def XFp (K : Fr) (D : Hp) (p : Str × XF) (q : Str × L2.V) : Prop := p.1 = q.1 ∧ XFrep K D p.2 q.2
theorem XFrep.mono {K : Fr} {D D' : Hp} (e : Le D D') : ∀ {x : XF} {v : L2.V}, XFrep K D x v → XFrep K D' x v
  | .int _, _, h => h
  | .row _, _, h => (tRow tInt).mono e h
  | .str _, _, h => h
theorem XFp.monos {K : Fr} {D D' : Hp} (e : Le D D') : ∀ {xs : List (Str × XF)} {vs : List (Str × L2.V)}, Paired (XFp K D) xs vs → Paired (XFp K D') xs vs
  | _, _, .nil => .nil
  | _, _, .cons r t => .cons ⟨r.1, r.2.mono e⟩ (XFp.monos e t)
section
variable {X : Cx} {G : Ctx} {Γ : Vw} {α β γ δ τ ρ θ C C' : Type} {a b c e it tg : Expr} {pos : Pos} {st : Stmt} {rest : List Stmt} {R : Rp ρ} {Z : θ → Dest ρ}
end
/-! ### a class's __init__ -/
section
variable {X : Cx} {G : Ctx} {Γ : Vw} {τ ρ : Type} {e : Expr} {es : List Expr} {pos p : Pos}
end
end T
set_option maxRecDepth 100000
set_option maxHeartbeats 4000000
namespace T
open PySem PySem.Spec PyProof.Rows L2
/-! ### what the written part says of classes -/
section
variable {P : Program} {w : World} {K : Fr} {mg : Str → Option Value} {base : Heap} {h : Heap} {x : Str} {C : Addr}
theorem xpl_mk (X : K.In h) (G : h.Ns mainGlobals mg) (a : PySem.W.nsIn K mainGlobals x = some (some (.ref C))) (q : PySem.W.excIn K C [.type "ValueError", .type "Exception", .type "BaseException", .type "object"] "ValueError.__new__" = true)
    (k : PySem.W.keepIn K (.ref C) = true) (b : PySem.W.subIn K (.ref C) (.type "BaseException") = some true) (t : PySem.W.typeIn K (.ref C) = some (.type "type")) : XPl K mg x := ⟨C, PySem.W.mg_of X G a, q, k, b, t⟩
theorem all_nil {α : Type} {P : α → Prop} : ∀ x ∈ ([] : List α), P x := fun _ z => nomatch z
theorem all_cons {α : Type} {P : α → Prop} {a : α} {l : List α} (h : P a) (t : ∀ x ∈ l, P x) : ∀ x ∈ a :: l, P x := fun x hx => by
  rcases List.mem_cons.mp hx with z | z
  · rw [z]; exact h
  · exact t x z
end
/-! ### the ring -/
abbrev Rg : Type := List Int × Int × Int
end T
set_option maxRecDepth 100000
set_option maxHeartbeats 4000000
namespace T
open PySem PySem.Spec PyProof.Rows L2
/-! ### sorted, of rows of one length -/
def sortOk (xs : List (List Int)) : Bool := decide (xs.length < 64) && decide (0 < (xs.headD [0]).length) && xs.all fun x => decide (x.length = (xs.headD [0]).length) && x.all fun m => decide (0 ≤ m) && decide (m < 1000)
def sortT (xs : List (List Int)) : List (List Int) := xs.mergeSort fun a b => decide (TS.code 1000 a ≤ TS.code 1000 b)
def psortT (xs : List (List Int)) : M (List (List Int)) := grd (sortOk xs = true) (ok (sortT xs))
theorem Paired.pw {α : Type} {F : α → L2.V → Prop} {R : L2.V → L2.V → Prop} {S : α → α → Prop} (hRS : ∀ x y a b, F x a → F y b → R a b → S x y) : ∀ {xs : List α} {vs : List L2.V}, Paired F xs vs → vs.Pairwise R → xs.Pairwise S
  | _, _, .nil, _ => .nil
  | _, _, .cons r t, h => by
    obtain ⟨h1, h2⟩ := List.pairwise_cons.mp h
    refine List.pairwise_cons.mpr ⟨fun y hy => ?_, Paired.pw hRS t h2⟩
    obtain ⟨i, hi⟩ := List.getElem?_of_mem hy
    obtain ⟨v, hv, hF⟩ := Paired.get t hi
    exact hRS _ _ _ _ r hF (h1 v (List.mem_of_getElem? hv))
theorem Paired.mem {α : Type} {F : α → L2.V → Prop} {v : L2.V} : ∀ {xs : List α} {vs : List L2.V}, Paired F xs vs → v ∈ vs → ∃ x ∈ xs, F x v
  | _, _, .nil, h => nomatch h
  | _, _, .cons r t, h => by
    rcases List.mem_cons.mp h with z | z
    · subst z; exact ⟨_, List.mem_cons_self, r⟩
    · obtain ⟨x, hx, hF⟩ := Paired.mem t z
      exact ⟨x, List.mem_cons_of_mem _ hx, hF⟩
section
variable {X : Cx} {G : Ctx} {Γ : Vw} {α β γ δ τ ρ θ C C' : Type} {a b c e it tg : Expr} {pos : Pos} {st : Stmt} {rest : List Stmt} {R : Rp ρ} {Z : θ → Dest ρ}
end
end T
set_option maxRecDepth 100000
namespace T
open PySem PySem.Spec PyProof.Rows L2
section
variable {X : Cx} {G : Ctx} {Γ : Vw} {pos : Pos}
/-! ### list(range(i, j)) -/
instance (i j : Int) : Decidable (L2.RgOk i j) := by unfold L2.RgOk; exact inferInstance
/-! ### is, of two truth values -/
end
end T
set_option maxRecDepth 100000
namespace T
open PySem PySem.Spec PyProof.Rows L2
/-! ### short lists of places of unlike types, that nobody changes -/
section
variable {X : Cx} {G : Ctx} {Γ : Vw} {pos : Pos} {α β γ : Type}
end
end T
set_option maxRecDepth 100000
set_option maxHeartbeats 4000000
namespace T
open PySem PySem.Spec PyProof.Rows L2
/-! ### try with clauses, some of which name what they caught -/
/-- one clause: the class, the slot of the name (where there is one), what its suite does -/
structure Cl where
  c : Value
  at_ : Option Nat
  t : Addr → Value → Option Addr → TS
def Cl.st (q : Cl) (a : Addr) (σ : L2.St) : L2.St := match q.at_ with
  | none => σ
  | some i => σ.set i (some (.ref a))
/-- the name of a clause is a local one, at its slot -/
def ClAt (X : Cx) (nm : Option Str) (q : Cl) : Prop := match nm, q.at_ with
  | none, none => True
  | some n, some i => X.N[i]? = some n ∧ X.env.kindOf n = some .local
  | _, _ => False
inductive Cls' (X : Cx) : List ExceptHandler → List Cl → Prop
  | nil : Cls' X [] []
  | cons {x : Str} {nm : Option Str} {q : Cl} {b0 : Stmt} {bs : List Stmt} {p1 p2 : Pos} {hs : List ExceptHandler} {l : List Cl} (hc : Names X x q.c) (ha : ClAt X nm q)
      (hb : ∀ (a : Addr) (o : Obj) (k : Value) (d : Option Addr) (pn : List (Addr × Obj)), Zc k d o → (∃ vs, o.data = .fields vs) → PSs (X.suite a ((a, o) :: pn)) (b0 :: bs) (q.t a k d)) (r : Cls' X hs l) :
      Cls' X (.ExceptHandler (some (.Name x p1)) nm (b0 :: bs) p2 :: hs) (q :: l)
section
variable {X : Cx} {body : List Stmt} {hd0 : ExceptHandler} {hds : List ExceptHandler} {l : List Cl} {pos : Pos} {tb : WX → TS} {W0 : WX}
end
/-! ### what a clause caught, as a thing of the view -/
theorem XRep.mono {K : Fr} {mg : Str → Option Value} {D D' : Hp} {e : Ex} {c : Value} {d : Option Addr} (le : Le D D') (h : XRep K mg D e c d) : XRep K mg D' e c d := by
  obtain ⟨C, h1, h2, h3⟩ := h
  refine ⟨C, h1, h2, ?_⟩
  cases hf : e.fs with
  | nil => rw [hf] at h3; exact h3
  | cons f fs =>
    rw [hf] at h3
    obtain ⟨dx, vs, q1, q2, q3⟩ := h3
    refine ⟨dx, vs, q1, le _ _ q2, ?_⟩
    have go : ∀ {xs : List (Str × XF)} {ys : List (Str × L2.V)}, Paired (fun (p : Str × XF) (q : Str × L2.V) => p.1 = q.1 ∧ XFrep K D p.2 q.2) xs ys → Paired (fun (p : Str × XF) (q : Str × L2.V) => p.1 = q.1 ∧ XFrep K D' p.2 q.2) xs ys := by
      intro xs ys hp
      induction hp with
      | nil => exact .nil
      | cons r _ ih =>
        exact .cons ⟨r.1, XFrep.mono le r.2⟩ ih
    exact go q3
def exD (mg : Str → Option Value) (a : Addr) (c : Value) (d : Option Addr) : Dt Ex := ⟨fun K D e v => v = .ref a ∧ XRep K mg D e c d, fun le h => ⟨h.1, h.2.mono le⟩⟩
/-- no entry of a slot -/
def FreeAt {ρ : Type} (i : Nat) : Dest ρ → Prop
  | .nx Γ => rmv i Γ = Γ
  | .bk Γ => rmv i Γ = Γ
  | .ct Γ => rmv i Γ = Γ
  | .rt _ => True
abbrev noW : WX := fun _ _ _ _ => False
section
variable {X : Cx} {G : Ctx} {Γ : Vw} {pos : Pos} {θ ρ : Type} {R : Rp ρ} {Z : θ → Dest ρ}
theorem dPost.drop {K : Fr} {H0 D0 : Hp} {D : Ends} {i : Nat} {z : Dest ρ} (hz : FreeAt i z) (h : dPost K H0 D0 R D z) :
    dPost K H0 D0 R { nx := fun σ H => D.nx (σ.set i none) H, rt := D.rt, bk := fun σ H => D.bk (σ.set i none) H, ct := fun σ H => D.ct (σ.set i none) H } z := by
  have go : ∀ {Γ : Vw} {σ : L2.St} {H' D' : Hp} {os : List Addr}, rmv i Γ = Γ → Rel K H0 D0 Γ σ H' D' os → Rel K H0 D0 Γ (σ.set i none) H' D' os := fun {Γ σ H' D' os} e r => ⟨r.ext, r.own, r.nd, by
    have := r.hold
    rw [← e] at this ⊢
    exact this.set⟩
  cases z with
  | nx Γ => exact fun σ' H' D' os' r => h _ H' D' os' (go hz r)
  | bk Γ => exact fun σ' H' D' os' r => h _ H' D' os' (go hz r)
  | ct Γ => exact fun σ' H' D' os' r => h _ H' D' os' (go hz r)
  | rt a => exact h
/-- the clauses, each with its table and what its suite tells -/
inductive HdT (X : Cx) (k : Nat) (V : Vw) (R : Rp ρ) (Z : θ → Dest ρ) : List ExceptHandler → List (List (Str × Bool) × (Ex → M θ)) → List Cl → Prop
  | nil : HdT X k V R Z [] [] []
  | plain {x : Str} {tbl : List (Str × Bool)} {rs : Ex → M θ} {b0 : Stmt} {bs : List Stmt} {p1 p2 : Pos} {hs cs l} (F : XSub X.K X.mg x tbl) (hg : Gl X x) (hd : (x == ("__debug__" : Str)) = false)
      (hb : ∀ (e : Ex) (a : Addr) (pn : List (Addr × Obj)), JB (X.suite a pn) ⟨noW, [], k, false⟩ V (b0 :: bs) R Z (rs e)) (r : HdT X k V R Z hs cs l) :
      HdT X k V R Z (.ExceptHandler (some (.Name x p1)) none (b0 :: bs) p2 :: hs) ((tbl, rs) :: cs) (⟨(X.mg x).getD .none, none, fun _ _ _ E σ H => ∃ e, tJ X.K X.mg ⟨noW, [], k, false⟩ V R Z (rs e) E σ H⟩ :: l)
  | named (i : Nat) {x n : Str} {tbl : List (Str × Bool)} {rs : Ex → M θ} {b0 : Stmt} {bs : List Stmt} {p1 p2 : Pos} {hs cs l} (F : XSub X.K X.mg x tbl) (hg : Gl X x) (hd : (x == ("__debug__" : Str)) = false)
      (hi : X.N[i]? = some n) (hl : X.env.kindOf n = some .local) (hz : ∀ t, FreeAt i (Z t))
      (hb : ∀ (e : Ex) (a : Addr) (o : Obj) (c : Value) (d : Option Addr) (pn : List (Addr × Obj)), Zc c d o → (∃ vs, o.data = .fields vs) → JB (X.suite a ((a, o) :: pn)) ⟨noW, [], k, false⟩ (put (eD i (exD X.mg a c d) e) V) (b0 :: bs) R Z (rs e)) (r : HdT X k V R Z hs cs l) :
      HdT X k V R Z (.ExceptHandler (some (.Name x p1)) (some n) (b0 :: bs) p2 :: hs) ((tbl, rs) :: cs) (⟨(X.mg x).getD .none, some i, fun a c d E σ H => ∃ e, tJ X.K X.mg ⟨noW, [], k, false⟩ (put (eD i (exD X.mg a c d) e) V) R Z (rs e) E σ H⟩ :: l)
theorem HdT.cls {k : Nat} {V : Vw} {hs cs l} (h : HdT X k V R Z hs cs l) (w : Wf X G) : Cls' X hs l := by
  have wS : ∀ (a : Addr) (pn : List (Addr × Obj)), Wf (X.suite a pn) ⟨noW, [], k, false⟩ := fun a pn => ⟨takes0, w.nd, (fun z => nomatch z), (fun z => nomatch z), w.hu, PassesOwn.never⟩
  induction h with
  | nil => exact .nil
  | plain F hg hd hb r ih =>
    obtain ⟨C, hm, _⟩ := F.ex
    refine .cons ⟨hg, hd, .inl (by rw [hm]; rfl)⟩ trivial (fun a o c d pn _ _ => ?_) ih
    exact ⟨fun pins s σ H E I ⟨e, he⟩ => (hb e a _ (wS a _)).run pins s σ H E I he⟩
  | named i F hg hd hi hl hz hb r ih =>
    obtain ⟨C, hm, _⟩ := F.ex
    refine .cons ⟨hg, hd, .inl (by rw [hm]; rfl)⟩ ⟨hi, hl⟩ (fun a o c d pn h1 h2 => ?_) ih
    exact ⟨fun pins s σ H E I ⟨e, he⟩ => (hb e a o c d pn h1 h2 (wS a _)).run pins s σ H E I he⟩
end
end T
set_option maxRecDepth 100000
set_option maxHeartbeats 4000000
namespace T
open PySem PySem.Spec PyProof.Rows L2
/-! ### isinstance of what a clause caught -/
section
variable {X : Cx} {G : Ctx} {Γ : Vw} {pos : Pos}
end
/-! ### what the written part says of them -/
section
variable {K : Fr} {mg : Str → Option Value} {h : Heap} {x n : Str} {C Cn : Addr} {cv : Value} {b : Bool}
end
end T
set_option maxRecDepth 100000
set_option maxHeartbeats 4000000
namespace T
open PySem PySem.Spec PyProof.Rows L2
/-! ### max of a list of whole numbers -/
section
variable {X : Cx} {G : Ctx} {Γ : Vw} {pos : Pos}
end
end T
set_option maxRecDepth 100000
set_option maxHeartbeats 4000000
namespace T
open PySem PySem.Spec PySem.Calls PyProof.Rows PySem.W
/-! ### the class of an exception, with or without a dict of its own -/
section
variable {prog : Program} {w : World} {A : Around} {E : Value → Shared → Prop} {s : Shared} {K : Frag} {x D : Addr} {ox : Obj} {od : Option Obj}
end
/-! ### a field of what the suite holds -/
section
variable {K : Fr} {mg : Str → Option Value} {h : Heap} {n m : Str} {Cn : Addr} {b : Bool}
end
end T
set_option maxRecDepth 100000
set_option maxHeartbeats 4000000
namespace T
open PySem PySem.Spec PyProof.Rows L2
/-! ### lists that a def changes for its caller -/
section
variable {X : Cx} {G : Ctx} {Γ : Vw} {α β γ δ τ ρ θ C : Type} {a b c e tg : Expr} {pos : Pos} {es : List Expr} {R : Rp ρ} {Z : θ → Dest ρ} {RL : Rp (List α)} {sL : Stable RL} {A : Dt α}
/-! ### defs that change the list of their first argument, and fall off their end -/
end
end T
set_option maxRecDepth 100000
set_option maxHeartbeats 4000000
namespace T
open PySem PySem.Spec PyProof.Rows L2 PySem.W
/-! ### isinstance(e, (A, B, ..)) of what a clause caught -/
/-! ### short lists of unlike places, compared -/
section
variable {α β γ : Type} [DecidableEq α] [DecidableEq β] [DecidableEq γ] {A : Dt α} {B : Dt β} {C : Dt γ}
end
end T
namespace T
open PySem PySem.Spec PyProof.Rows L2
/-! ### clauses, met or not -/
end T
set_option maxRecDepth 100000
set_option maxHeartbeats 4000000
namespace T
open PySem PySem.Spec PyProof.Rows L2
/-! ### <, <=, >, >= of data of one kind -/
structure Al {α : Type} [DecidableEq α] {A : Dt α} (e : Enc A) : Prop where
  al : ∀ a b, PySem.W.alike (e.toD a) (e.toD b) = true
  nn : ∀ a, e.toD a ≠ .none
def ltE {α : Type} [DecidableEq α] {A : Dt α} (e : Enc A) (x y : α) : Bool := PySem.W.dataLt (e.toD x) (e.toD y)
section
variable {α β γ : Type} [DecidableEq α] [DecidableEq β] [DecidableEq γ] {A : Dt α} {B : Dt β} {C : Dt γ}
theorem al_int : Al eInt := ⟨fun _ _ => rfl, fun _ h => nomatch h⟩
end
section
variable {X : Cx} {G : Ctx} {Γ : Vw} {α : Type} [DecidableEq α] {a b : Expr} {pos : Pos}
variable {A : Dt α} {R R' : Rp α} {ra rb : M α}
end
/-! ### a list of one's own, lent to what keeps nothing of it -/
def Flat {α : Type} (B : Dt α) : Prop := ∀ (K : Fr) (H H' : Hp) (a : α) (v : L2.V), B.rep K H a v → B.rep K H' a v
theorem flat_bool : Flat tBool := fun _ _ _ _ _ h => h
section
variable {X : Cx} {G : Ctx} {Γ : Vw} {α β : Type} {e : Expr}
theorem E_lend (i : Nat) {A : Dt α} {B : Dt β} {xs : List α} {r : M β} (hf : find i Γ = some (eO i A xs)) (hB : Flat B) (h : ET X G (put (eD i (tLst A) xs) Γ) e (dat B) r) : ET X G Γ e (dat B) r := fun w =>
  (h w).weak fun σ H Q ⟨H0, D0, D, os, hr, x, hx, hp⟩ => by
    obtain ⟨fp, os', v, q1, ⟨p, vs, rfl, rfl, r3, r4⟩, q3, q4, q5⟩ := hr.hold.find hf hr.nd
    have ho : p ∈ os := q5 p (List.mem_append_left _ List.mem_cons_self)
    obtain ⟨h1, h2, h3⟩ := hr.own p ho
    have np : ∀ x ∈ os', x ≠ p := fun x hx z => (List.nodup_cons.mp q4).1 (z ▸ hx)
    have hup : Le D (upd D p (.lst vs)) := fun b o z => by rw [upd_ne (ne_of_none z h2)]; exact z
    have hr' : Rel X.K H0 D0 (put (eD i (tLst A) xs) Γ) σ H (upd D p (.lst vs)) os' := by
      refine ⟨⟨hr.ext.h, hr.ext.d.trans hup, fun b o z => ?_, fun b z1 z2 => ?_⟩, fun q hq => ?_, (List.nodup_cons.mp q4).2, ⟨[], os', rfl, ⟨.ref p, q1, rfl, p, vs, rfl, upd_same, A.monos hup r4⟩, q3.agree (fun _ _ => rfl) hup⟩⟩
      · by_cases q : b = p
        · subst q; rw [upd_same] at z; cases z; exact r3
        · rw [upd_ne q] at z; exact hr.ext.dh b o z
      · by_cases q : b = p
        · subst q; exact absurd h1 z2
        · rw [upd_ne q]; exact hr.ext.out b z1 z2
      · obtain ⟨m1, m2, m3⟩ := hr.own q (q5 q (List.mem_append_right _ hq))
        exact ⟨m1, by rw [upd_ne (np q hq)]; exact m2, m3⟩
    refine ⟨H0, D0, _, os', hr', x, hx, ?_⟩
    cases x with
    | ex e => exact hp
    | ok c => exact fun v H' D' fp e ⟨e0, r⟩ f => hp v H' D [] ⟨e.h, Same.refl _, (hup.trans e.d).trans e.dh, fun _ z _ => z⟩ ⟨rfl, hB _ _ _ _ _ r⟩ .nil
end
end T
set_option maxRecDepth 100000
set_option maxHeartbeats 4000000
/-! enumerate of a tuple -/
namespace EB
open PySem PySem.Spec PyProof.Rows L2
section
variable {prog : Program} {w : World} {A : Around} {E : Value → Shared → Prop} {s : Shared}
end
end EB
namespace T
open PySem PySem.Spec PyProof.Rows L2
section
variable {X : Cx} {G : Ctx} {Γ : Vw} {α : Type} {a : Expr} {pos : Pos}
end
end T
set_option maxRecDepth 100000
set_option maxHeartbeats 4000000
/-! any of whole numbers -/
namespace EB
open PySem PySem.Spec PyProof.Rows L2
section
variable {X : Cx}
end
end EB
namespace T
open PySem PySem.Spec PyProof.Rows L2
section
variable {X : Cx} {G : Ctx} {Γ : Vw} {a : Expr} {pos : Pos}
end
end T
set_option maxRecDepth 100000
set_option maxHeartbeats 4000000
/-! a tuple, any times -/
namespace EB
open PySem PySem.Spec PyProof.Rows L2
section
variable {X : Cx}
end
end EB
namespace T
open PySem PySem.Spec PyProof.Rows L2
section
variable {X : Cx} {G : Ctx} {Γ : Vw} {α : Type} {a b : Expr} {pos : Pos}
end
end T
set_option maxRecDepth 100000
set_option maxHeartbeats 4000000
/-! a list of one's own: insert, extend -/
namespace T
open PySem PySem.Spec PyProof.Rows L2
section
variable {X : Cx} {G : Ctx} {Γ : Vw} {α β γ δ τ ρ θ C C' : Type} {a b c e j it tg : Expr} {pos : Pos} {st : Stmt} {rest B : List Stmt} {R : Rp ρ} {Z : θ → Dest ρ}
def pins {α : Type} (xs : List α) (i : Int) (x : α) : M (List α) := grd (xs.length < sizeLine ∧ 0 ≤ i ∧ i < 2 ^ 63) (ok (xs.take i.toNat ++ [x] ++ xs.drop i.toNat))
end
end T
set_option maxRecDepth 100000
set_option maxHeartbeats 4000000
/-! range(i, j), whatever the ends -/
namespace RB
open PySem PySem.Spec PyProof.Rows L2
section
variable {X : Cx} {tg : Expr}
end
end RB
namespace T
open PySem PySem.Spec PyProof.Rows L2
section
variable {X : Cx} {G : Ctx} {Γ : Vw} {α β γ δ τ ρ θ C C' : Type} {a b c e it tg : Expr} {pos : Pos} {st : Stmt} {rest B : List Stmt} {R : Rp ρ} {Z : θ → Dest ρ}
end
end T
set_option maxRecDepth 100000
set_option maxHeartbeats 4000000
/-! xs.extend(a tuple) -/
namespace EX
open PySem PySem.Spec PyProof.Rows L2
section
variable {X : Cx}
end
end EX
namespace T
open PySem PySem.Spec PyProof.Rows L2
section
variable {X : Cx} {G : Ctx} {Γ : Vw} {α β γ δ τ ρ θ C C' : Type} {a b c e j it tg : Expr} {pos : Pos} {st : Stmt} {rest B : List Stmt} {R : Rp ρ} {Z : θ → Dest ρ}
end
end T
set_option maxRecDepth 100000
set_option maxHeartbeats 4000000
/-! a list of one's own, lent to what gives rows back -/
namespace T
open PySem PySem.Spec PyProof.Rows L2
section
variable {X : Cx} {G : Ctx} {Γ : Vw} {α β : Type} {e : Expr}
end
end T
set_option maxRecDepth 100000
set_option maxHeartbeats 4000000
/-! while, with a return within -/
namespace T
open PySem PySem.Spec PyProof.Rows L2
section
variable {X : Cx} {G : Ctx} {Γ : Vw} {α β γ δ τ ρ θ C C' : Type} {a b c e j it tg : Expr} {pos : Pos} {st : Stmt} {rest B : List Stmt} {R : Rp ρ} {Z : θ → Dest ρ}
end
end T
set_option maxRecDepth 100000
set_option maxHeartbeats 4000000
/-! sorted, of any alike tuples -/
namespace SD
open PySem PySem.Spec PyProof.Rows L2
open PySem.W (EachIs AllAlike Sortable dataLe)
end SD
namespace T
open PySem PySem.Spec PyProof.Rows L2
open PySem.W (AllAlike Sortable dataLe)
section
variable {X : Cx} {G : Ctx} {Γ : Vw} {α : Type} [DecidableEq α] {a : Expr} {pos : Pos}
theorem Paired.zip {F : α → L2.V → Prop} : ∀ {xs : List α} {vs : List L2.V}, Paired F xs vs → (vs.zip xs).map (·.1) = vs ∧ (vs.zip xs).map (·.2) = xs ∧ ∀ q ∈ vs.zip xs, F q.2 q.1
  | _, _, .nil => ⟨rfl, rfl, fun q hq => nomatch hq⟩
  | _, _, .cons r t => by
    obtain ⟨h1, h2, h3⟩ := Paired.zip t
    refine ⟨by simp only [List.zip_cons_cons, List.map_cons, h1], by simp only [List.zip_cons_cons, List.map_cons, h2], fun q hq => ?_⟩
    rcases List.mem_cons.mp hq with rfl | hq
    · exact r
    · exact h3 q hq
end
end T
set_option maxRecDepth 100000
set_option maxHeartbeats 4000000
/-! a list of one's own that is never read again: what is put into it may be of any kind -/
namespace T
open PySem PySem.Spec PyProof.Rows L2
section
variable {X : Cx} {G : Ctx} {Γ : Vw} {α β γ δ τ ρ θ C C' : Type} {a b c e j it tg : Expr} {pos : Pos} {st : Stmt} {rest B : List Stmt} {R : Rp ρ} {Z : θ → Dest ρ}
def tAny : Dt Unit := ⟨fun _ _ _ _ => True, fun _ h => h⟩
theorem E_anyV {A : Dt α} {r : M α} (h : ET X G Γ a (dat A) r) : ET X G Γ a (dat tAny) (r.bind fun _ => ok ()) := fun w =>
  (h w).weak fun σ H Q ⟨H0, D0, D, os, hr, x, hx, hp⟩ => by
    rcases bind_some hx with ⟨y, rfl, hf⟩ | ⟨e, rfl, rfl⟩
    · cases hf
      exact ⟨H0, D0, D, os, hr, _, rfl, fun v H' D' fp e ⟨h1, h2⟩ f => hp v H' D' fp e ⟨h1, True.intro⟩ f⟩
    · exact ⟨H0, D0, D, os, hr, _, rfl, hp⟩
theorem Paired.any {K : Fr} {D : Hp} {F : α → L2.V → Prop} : ∀ {xs : List α} {vs : List L2.V}, Paired F xs vs → Paired (tAny.rep K D) (xs.map fun _ => ()) vs
  | _, _, .nil => .nil
  | _, _, .cons _ t => .cons True.intro (Paired.any t)
theorem J_any (i : Nat) {A : Dt α} {xs : List α} {r : M θ} (hf : find i Γ = some (eO i A xs)) (h : JB X G (put (eO i tAny (xs.map fun _ => ())) Γ) B R Z r) : JB X G Γ B R Z r := fun w =>
  (h w).weak fun E σ H ⟨H0, D0, D, os, hr, x, hx, hp⟩ => by
    obtain ⟨fp, os', v, q1, ⟨p, vs, rfl, rfl, r3, r4⟩, q3, q4, q5⟩ := hr.hold.find hf hr.nd
    exact ⟨H0, D0, D, [p] ++ os', ⟨hr.ext, fun x hx => hr.own x (q5 x hx), q4, ⟨[p], os', rfl, ⟨.ref p, q1, p, vs, rfl, rfl, r3, Paired.any r4⟩, q3⟩⟩, x, hx, hp⟩
end
end T
set_option maxRecDepth 100000
set_option maxHeartbeats 4000000
namespace T
open PySem PySem.Spec PyProof.Rows L2
/-! ### min of a list of whole numbers -/
section
variable {X : Cx} {G : Ctx} {Γ : Vw} {pos : Pos}
end
section
variable {X : Cx} {G : Ctx} {Γ : Vw} {α : Type} [DecidableEq α] {a : Expr} {pos : Pos}
open PySem.W (AllAlike Sortable dataLe)
end
end T
set_option maxRecDepth 100000
set_option maxHeartbeats 4000000
namespace T
open PySem PySem.Spec PyProof.Rows L2
/-! ### words joined -/
theorem Paired.toStrs {K : Fr} {D : Hp} : ∀ {xs : List Str} {vs : List L2.V}, Paired (tStr.rep K D) xs vs → vs = xs.map V.str
  | _, _, .nil => rfl
  | _, _, .cons r t => by rw [List.map_cons, ← Paired.toStrs t]; exact congrArg (· :: _) r
def pjoin (a : Str) (ys : List Str) : M Str := grd ((ys.map (·.length)).sum + ys.length * a.length ≤ 16777216) (ok (Txt.join a ys))
section
variable {X : Cx} {G : Ctx} {Γ : Vw} {a : Expr} {pos : Pos}
theorem E_join {s : Str} {j : Nat} {r : M (List Str)} {p1 p2 ep : Pos} (ha : ET X G Γ a (bor tStr) r)
    (hs1 : starEach [a] X.env = [(false, eval a X.env)] := by rfl)
    (hpl : (backTo ep (starEach [] X.env)).any (·.1) = false := by rfl)
    (hbase : attributeBase (.Constant (.str s) j p1) "join" X.env (eval (.Constant (.str s) j p1) X.env) = eval (.Constant (.str s) j p1) X.env := by rfl)
    (hfew : ((backTo ep (starEach [a] X.env)).all (fun x => !x.1) && (backToKw ep (keywordEach [] X.env)).all (fun x => x.1.isSome)
      && decide (([a] : List Expr).length + ([] : List Keyword).length + (if ([] : List Keyword).isEmpty then 0 else 1) < 30)) = true := by rfl)
    (hline : (p2.endLine == ep.line) = true := by rfl) :
    ET X G Γ (.Call (.Attribute (.Constant (.str s) j p1) "join" p2) [a] [] ep) (dat tStr) (r.bind fun ys => pjoin s ys) := fun w =>
  (pe_bm PySem.F.plainAttrs_str PySem.F.slot_str_join PySem.F.type_str_join mt_join pe_str (pa_cons (ha w) pa_nil hs1) hbase hfew hline hs1 hpl).weak fun σ H Q ⟨H0, D0, D, os, hr, x, hx, hp⟩ => by
    refine ⟨?_, seqEE hr hx hp fun ys H1 D1 fp v _ hx1 e1 r1 f1 hr1 hp1 => ?_⟩
    · trivial
    · obtain ⟨_, q, vs, z, h1, h2⟩ := r1
      subst z
      cases x with
      | ex e => exact absurd hx1 (grd_nx (fun z => nomatch z))
      | ok c =>
        obtain ⟨g1, g2⟩ := grd_ok hx1
        cases g2
        have hv := Paired.toStrs h2
        subst hv
        exact ⟨s, q, ys, rfl, rfl, .inl h1, g1, hp1 _ H1 D1 [] (Ext.refl hr1.le) ⟨rfl, rfl⟩ .nil⟩
end
end T
set_option maxRecDepth 100000
set_option maxHeartbeats 4000000
namespace T
open PySem PySem.Spec PyProof.Rows L2
/-! ### a list of one's own, lent to a walk -/
def NoE (e : Ent) : Prop := ∀ (K : Fr) (H H' D D' : Hp) (fp : List Addr) (v : L2.V) (p : Addr) (vs : List L2.V), D p = some (.lst vs) → (∀ b, b ≠ p → D' b = D b) → e.R.rep K H D fp e.val v → fp = [] ∧ e.R.rep K H D' [] e.val v
inductive NV : Vw → Prop
  | nil : NV []
  | cons {e : Ent} {V : Vw} (h : NoE e) (t : NV V) : NV (e :: V)
theorem NV.hold {K : Fr} {H D D' : Hp} {σ : L2.St} {p : Addr} {vs : List L2.V} (hp : D p = some (.lst vs)) (he : ∀ b, b ≠ p → D' b = D b) : ∀ {V : Vw} {os : List Addr}, NV V → Hold K H D σ V os → os = [] ∧ Hold K H D' σ V []
  | [], os, _, h => ⟨h, rfl⟩
  | e :: V, os, .cons h t, ⟨fp, os', h1, ⟨v, h2, h3⟩, h4⟩ => by
    obtain ⟨e1, e2⟩ := h K H H D D' fp v p vs hp he h3
    obtain ⟨e3, e4⟩ := NV.hold hp he t h4
    exact ⟨by rw [h1, e1, e3]; rfl, [], [], rfl, ⟨v, h2, e2⟩, e4⟩
section
variable {X : Cx} {G : Ctx} {Γ : Vw} {α ρ C : Type} {a : Expr} {s : Stmt} {R : Rp ρ}
end
end T
set_option maxRecDepth 100000
set_option maxHeartbeats 4000000
namespace T
open PySem PySem.Spec PyProof.Rows L2
/-! ### one of two kinds -/
section
variable {X : Cx} {G : Ctx} {Γ : Vw} {α β : Type} {a : Expr} {A : Dt α} {B : Dt β}
end
section
variable {α β : Type} [DecidableEq α] [DecidableEq β] {A : Dt α} {B : Dt β}
end
end T
set_option maxRecDepth 100000
set_option maxHeartbeats 4000000
namespace T
open PySem PySem.Spec PyProof.Rows L2
/-! ### range(i, j, c), c from 1 on -/
section
variable {X : Cx} {G : Ctx} {Γ : Vw} {α β : Type} {a b tg : Expr} {pos : Pos}
end
end T
set_option maxRecDepth 100000
set_option maxHeartbeats 4000000
namespace T
open PySem PySem.Spec PyProof.Rows L2
/-! ### the first two places of a record of three -/
section
variable {X : Cx} {G : Ctx} {Γ : Vw} {α γ : Type} {a : Expr} {pos : Pos}
end
end T
set_option maxRecDepth 100000
set_option maxHeartbeats 4000000
/-! a list of three places of unlike types, filled place by place: its places are of a union while it is one's own, and it is read as a record when it is handed on -/
namespace T
open PySem PySem.Spec PyProof.Rows L2
section
variable {α β γ : Type} [DecidableEq α] [DecidableEq β] [DecidableEq γ] {A : Dt α} {B : Dt β} {C : Dt γ}
end
section
variable {α β γ : Type} {A : Dt α} {B : Dt β} {C : Dt γ}
variable {X : Cx} {G : Ctx} {Γ : Vw} {a : Expr}
end
end T
set_option maxRecDepth 100000
set_option maxHeartbeats 4000000
/-! membership with one instance for all kinds; a name of one kind that is read as one of two from here on -/
namespace T
open PySem PySem.Spec PyProof.Rows L2
section
variable {X : Cx} {G : Ctx} {Γ : Vw} {α β ρ θ : Type} {bl : List Stmt} {R : Rp ρ} {Z : θ → Dest ρ}
end
end T
set_option maxRecDepth 100000
set_option maxHeartbeats 4000000
/-! lists of one's own within lists and records of one's own -/
namespace T
open PySem PySem.Spec PyProof.Rows L2
/-- items, each with what it owns -/
inductive Ow {α : Type} (K : Fr) (H D : Hp) (R : Rp α) : List α → List L2.V → List Addr → Prop
  | nil : Ow K H D R [] [] []
  | cons {a : α} {v : L2.V} {fp : List Addr} {xs : List α} {vs : List L2.V} {fps : List Addr} (h : R.rep K H D fp a v) (t : Ow K H D R xs vs fps) : Ow K H D R (a :: xs) (v :: vs) (fp ++ fps)
theorem Ow.mono {α : Type} {K : Fr} {H H' D D' : Hp} {R : Rp α} (e : Le H H') (d : Le D D') : ∀ {xs : List α} {vs : List L2.V} {fps : List Addr}, Ow K H D R xs vs fps → Ow K H' D' R xs vs fps
  | _, _, _, .nil => .nil
  | _, _, _, .cons h t => .cons (R.mono e d h) (Ow.mono e d t)
theorem Ow.length {α : Type} {K : Fr} {H D : Hp} {R : Rp α} : ∀ {xs : List α} {vs : List L2.V} {fps : List Addr}, Ow K H D R xs vs fps → xs.length = vs.length
  | _, _, _, .nil => rfl
  | _, _, _, .cons h t => congrArg (· + 1) (Ow.length t)
theorem Ow.agree {α : Type} {R : Rp α} (sR : Stable R) {K : Fr} {H H' D D' : Hp} (d : Le D D') : ∀ {xs : List α} {vs : List L2.V} {fps : List Addr}, (∀ p ∈ fps, H' p = H p) → Ow K H D R xs vs fps → Ow K H' D' R xs vs fps
  | _, _, _, _, .nil => .nil
  | _, _, _, k, .cons h t => .cons (sR _ _ _ _ _ _ _ _ (fun p hp => k p (List.mem_append_left _ hp)) d h) (Ow.agree sR d (fun p hp => k p (List.mem_append_right _ hp)) t)
/-! ### what is one's own, as data -/
def lay (D H : Hp) (fp : List Addr) : Hp := fun b => if b ∈ fp then H b else D b
theorem lay_in {D H : Hp} {fp : List Addr} {b : Addr} (h : b ∈ fp) : lay D H fp b = H b := if_pos h
theorem lay_out {D H : Hp} {fp : List Addr} {b : Addr} (h : b ∉ fp) : lay D H fp b = D b := if_neg h
theorem lay_sub {D H : Hp} {fp gp : List Addr} (h : ∀ p ∈ gp, D p = none) (s : ∀ p ∈ fp, p ∈ gp) : Le (lay D H fp) (lay D H gp) := fun b o z => by
  by_cases q : b ∈ fp
  · rw [lay_in q] at z; rw [lay_in (s b q)]; exact z
  · rw [lay_out q] at z
    rw [lay_out (fun r => by rw [h b r] at z; cases z)]; exact z
structure Lent {α : Type} (R : Rp α) (A : Dt α) : Prop where
  dt : ∀ {K : Fr} {H D : Hp} {fp : List Addr} {a : α} {v : L2.V}, (∀ p ∈ fp, D p = none) → R.rep K H D fp a v → A.rep K (lay D H fp) a v
  ls : ∀ {K : Fr} {H D : Hp} {fp : List Addr} {a : α} {v : L2.V}, R.rep K H D fp a v → ∀ p ∈ fp, ∃ vs, H p = some (.lst vs)
theorem Lent.all {α : Type} {R : Rp α} {A : Dt α} (L : Lent R A) {K : Fr} {H D : Hp} : ∀ {xs : List α} {vs : List L2.V} {fps : List Addr}, (∀ p ∈ fps, D p = none) → Ow K H D R xs vs fps → Paired (A.rep K (lay D H fps)) xs vs
  | _, _, _, _, .nil => .nil
  | _, _, _, hf, .cons h t => .cons (A.mono (lay_sub hf fun p hp => List.mem_append_left _ hp) (L.dt (fun p hp => hf p (List.mem_append_left _ hp)) h))
      (A.monos (lay_sub hf fun p hp => List.mem_append_right _ hp) (Lent.all L (fun p hp => hf p (List.mem_append_right _ hp)) t))
theorem Ow.imp {α : Type} {R : Rp α} {K : Fr} {H D D' : Hp} (h : ∀ fp a v, R.rep K H D fp a v → R.rep K H D' fp a v) : ∀ {xs : List α} {vs : List L2.V} {fps : List Addr}, Ow K H D R xs vs fps → Ow K H D' R xs vs fps
  | _, _, _, .nil => .nil
  | _, _, _, .cons r t => .cons (h _ _ _ r) (Ow.imp h t)
section
variable {X : Cx} {G : Ctx} {Γ : Vw} {α β γ ρ θ C : Type} {a b c e : Expr} {pos : Pos} {R : Rp ρ} {Z : θ → Dest ρ} {B : List Stmt}
end
end T
set_option maxRecDepth 100000
set_option maxHeartbeats 4000000
/-! lists of lists of one's own, changed -/
namespace T
open PySem PySem.Spec PyProof.Rows L2
section
variable {X : Cx} {G : Ctx} {Γ : Vw} {α β γ ρ θ C : Type} {a b c e j k : Expr} {pos : Pos} {R : Rp ρ} {Z : θ → Dest ρ} {B : List Stmt}
theorem Ow.at {α : Type} {R : Rp α} (sR : Stable R) {K : Fr} {H D : Hp} : ∀ {xs : List α} {vs : List L2.V} {fps : List Addr} (j : Nat) {x : α}, Ow K H D R xs vs fps → xs[j]? = some x →
    ∃ v f1 fp f2, vs[j]? = some v ∧ fps = f1 ++ fp ++ f2 ∧ R.rep K H D fp x v ∧ (∀ {H' D' : Hp} {y : α} {w : L2.V} {gp : List Addr}, Le D D' → (∀ p ∈ f1 ++ f2, H' p = H p) → R.rep K H' D' gp y w → Ow K H' D' R (xs.set j y) (vs.set j w) (f1 ++ gp ++ f2)) ∧
      ∀ {H' D' : Hp}, Le D D' → (∀ p ∈ f1 ++ f2, H' p = H p) → Ow K H' D' R (xs.eraseIdx j) (vs.eraseIdx j) (f1 ++ f2)
  | _, _, _, j, x, .nil, e => by simp at e
  | _, _, _, 0, x, .cons (a := a) (v := v) (fp := fp) (fps := fps) h t, e => by
    have e : a = x := by simpa using e
    subst e
    refine ⟨v, [], fp, fps, rfl, rfl, h, fun d k r => ?_, fun d k => Ow.agree sR d k t⟩
    exact .cons r (Ow.agree sR d k t)
  | _, _, _, j + 1, x, .cons (a := a) (v := v) (fp := fp) (fps := fps) h t, e => by
    obtain ⟨w, f1, gp, f2, e1, e2, e3, e4, e5⟩ := Ow.at sR j t (by simpa using e)
    refine ⟨w, fp ++ f1, gp, f2, by simpa using e1, by rw [e2]; simp, e3, fun {H' D' y u hp} d k r => ?_, fun {H' D'} d k => ?_⟩
    · have := e4 d (fun p hp => k p (by rcases List.mem_append.mp hp with z | z <;> simp [z])) r
      have h' : R.rep K H' D' fp a v := sR _ _ _ _ _ _ _ _ (fun p hp => k p (by simp [hp])) d h
      have z := Ow.cons h' this
      rw [show fp ++ f1 ++ hp ++ f2 = fp ++ (f1 ++ hp ++ f2) by simp]
      exact z
    · have := e5 d (fun p hp => k p (by rcases List.mem_append.mp hp with z | z <;> simp [z]))
      have h' : R.rep K H' D' fp a v := sR _ _ _ _ _ _ _ _ (fun p hp => k p (by simp [hp])) d h
      have z := Ow.cons h' this
      rw [show fp ++ f1 ++ f2 = fp ++ (f1 ++ f2) by simp]
      exact z
end
end T
set_option maxRecDepth 100000
set_option maxHeartbeats 4000000
/-! comprehensions whose items are things of their own -/
namespace T
open PySem PySem.Spec PyProof.Rows L2
section
variable {X : Cx} {G : Ctx} {Γ : Vw} {α β γ δ τ ρ θ C C' : Type} {a b c e it tg elt : Expr} {pos : Pos} {st : Stmt} {rest B : List Stmt} {R : Rp ρ} {Z : θ → Dest ρ} {ifs : List Expr}
end
end T
set_option maxRecDepth 100000
set_option maxHeartbeats 4000000
/-! more of lists of lists of one's own: methods, records, lending over a statement -/
namespace T
open PySem PySem.Spec PyProof.Rows L2
section
variable {X : Cx} {G : Ctx} {Γ : Vw} {α β γ ρ θ C : Type} {a b c e j k : Expr} {pos : Pos} {R : Rp ρ} {Z : θ → Dest ρ} {B : List Stmt} {es : List Expr}
end
end T
set_option maxRecDepth 100000
set_option maxHeartbeats 4000000
namespace T
open PySem PySem.Spec PyProof.Rows L2
section
variable {X : Cx} {G : Ctx} {Γ : Vw} {α β γ ρ θ C : Type} {a b c e j k it tg elt : Expr} {pos : Pos} {R : Rp ρ} {Z : θ → Dest ρ} {B : List Stmt} {es ifs : List Expr}
theorem Paired.eraseIdx {F : α → L2.V → Prop} : ∀ {xs : List α} {vs : List L2.V} (j : Nat), Paired F xs vs → Paired F (xs.eraseIdx j) (vs.eraseIdx j)
  | _, _, _, .nil => by simp only [List.eraseIdx_nil]; exact .nil
  | _, _, 0, .cons r t => t
  | _, _, j + 1, .cons r t => .cons r (Paired.eraseIdx j t)
end
end T
set_option maxRecDepth 100000
set_option maxHeartbeats 4000000
/-! two rows exchanged -/
namespace T
open PySem PySem.Spec PyProof.Rows L2
section
variable {X : Cx} {G : Ctx} {Γ : Vw} {α β γ ρ θ C : Type} {a b c e j k it tg elt : Expr} {pos : Pos} {R : Rp ρ} {Z : θ → Dest ρ} {B : List Stmt} {es ifs : List Expr}
end
end T
set_option maxRecDepth 100000
set_option maxHeartbeats 4000000
namespace T
open PySem PySem.Spec PyProof.Rows L2
section
variable {X : Cx} {G : Ctx} {Γ : Vw} {α β γ ρ θ C : Type} {a b c e j k it tg elt : Expr} {pos : Pos} {R : Rp ρ} {B : List Stmt} {es ifs : List Expr}
end
end T
set_option maxRecDepth 100000
set_option maxHeartbeats 4000000
namespace T
open PySem PySem.Spec PyProof.Rows L2
section
variable {X : Cx} {α β γ : Type}
variable {G : Ctx} {Γ : Vw} {θ ρ : Type} {B : List Stmt} {R : Rp ρ} {Z : θ → Dest ρ}
end
end T
set_option maxRecDepth 100000
set_option maxHeartbeats 4000000
namespace T
open PySem PySem.Spec PyProof.Rows L2
/-! ### texts -/
/-- a whole number, written -/
def pstr (i : Int) : M Str := grd (i.natAbs.log2 < 1920) (ok (Str.ofString (toString i)))
/-- the whole number that a text writes -/
def pintS (a : Str) : M Int := match intText? a with
  | some n => grd (a.length ≤ 640) (ok n)
  | none => stuck
def plenS (a : Str) : M Int := grd (a.length ≤ 16777216) (ok (a.length : Int))
def pcatS (a b : Str) : M Str := grd (a.length + b.length ≤ 16777216) (ok (a ++ b))
def pgetS (a : Str) (i : Int) : M Str := match atI a.cps.toList i with
  | some c => grd (a.length ≤ 16777216) (ok ⟨#[c]⟩)
  | none => stuck
def cutT (a : Str) (lo hi : Option Int) : M Str := grd (a.length ≤ 16777216) (ok (cutS a lo hi))
def inS (a b : Str) : Bool := !(Builtin.Str.occurrences b a 0 b.length 1).isEmpty
def psplit (a b : Str) : M (List Str) := grd ((b.length == 0) = false ∧ a.length + 2 ≤ 16777216) (ok (Txt.split a b))
def sgns (a : Str) : List Str := a.cps.toList.map fun c => ⟨#[c]⟩
section
variable {X : Cx} {G : Ctx} {Γ : Vw} {a b it tg : Expr} {pos : Pos}
theorem E_strI {ra : M Int} {p : Pos} (hm : X.mg "str" = none) (ha : ET X G Γ a (dat tInt) ra) (hg : Gl X "str" := by rfl) (hs1 : starEach [a] X.env = [(false, eval a X.env)] := by rfl) :
    ET X G Γ (.Call (.Name "str" p) [a] [] pos) (dat tStr) (ra.bind pstr) :=
  E_ty1 (A := dat tInt) (R := dat tStr) (g := pstr) call_str_int (fun H D a va fa c Q le ⟨_, z⟩ hg k => by
    obtain ⟨g1, g2⟩ := grd_ok hg
    cases g2
    exact ⟨a, by rw [show va = V.int a from z], g1, k _ H D [] (Ext.refl le) ⟨rfl, rfl⟩ .nil⟩) (fun xs e => grd_nx (fun z => nomatch z)) hm (by decide +kernel) ha hg (by decide) (by decide) hs1 rfl
theorem E_intS {ra : M Str} {p : Pos} (hm : X.mg "int" = none) (ha : ET X G Γ a (dat tStr) ra) (hg : Gl X "int" := by rfl) (hs1 : starEach [a] X.env = [(false, eval a X.env)] := by rfl) :
    ET X G Γ (.Call (.Name "int" p) [a] [] pos) (dat tInt) (ra.bind pintS) :=
  E_ty1 (A := dat tStr) (R := dat tInt) (g := pintS) call_int_str (fun H D a va fa c Q le ⟨_, z⟩ hg k => by
    unfold pintS at hg
    cases e : intText? a with
    | none => rw [e] at hg; cases hg
    | some n =>
      rw [e] at hg
      obtain ⟨g1, g2⟩ := grd_ok hg
      cases g2
      exact ⟨a, _, by rw [show va = V.str a from z], e, g1, k _ H D [] (Ext.refl le) ⟨rfl, rfl⟩ .nil⟩) (fun xs e => by
      unfold pintS
      split
      · exact grd_nx (fun z => nomatch z)
      · exact fun z => nomatch z) hm (by decide +kernel) ha hg (by decide) (by decide) hs1 rfl
theorem E_lenS {ra : M Str} {p : Pos} (hm : X.mg "len" = none) (ha : ET X G Γ a (dat tStr) ra) (hg : Gl X "len" := by rfl) (hs1 : starEach [a] X.env = [(false, eval a X.env)] := by rfl) :
    ET X G Γ (.Call (.Name "len" p) [a] [] pos) (dat tInt) (ra.bind plenS) :=
  E_bi1 (A := dat tStr) (R := dat tInt) (g := plenS) call_len_str (fun H D a va fa c Q le ⟨_, z⟩ hg k => by
    obtain ⟨g1, g2⟩ := grd_ok hg
    cases g2
    exact ⟨a, by rw [show va = V.str a from z], by rw [sizeLine_eq]; exact g1, k _ H D [] (Ext.refl le) ⟨rfl, rfl⟩ .nil⟩) (fun xs e => grd_nx (fun z => nomatch z)) hm PySem.boot_len ha hg (by decide) (by decide) hs1 rfl
theorem E_ixS {ra : M Str} {rb : M Int} (ha : ET X G Γ a (dat tStr) ra) (hb : ET X G Γ b (dat tInt) rb) (hp : PlainIx b := by intro _ _; rfl) : ET X G Γ (.Subscript a b pos) (dat tStr) (ra.bind fun x => rb.bind fun y => pgetS x y) :=
  E_ix (A := dat tStr) (B := dat tInt) (R := dat tStr) ix_str (fun H D x i va vb fa fb c Q le ⟨_, z⟩ ⟨_, z2⟩ hg k => by
    unfold pgetS at hg
    cases e : atI x.cps.toList i with
    | none => rw [e] at hg; cases hg
    | some d =>
      rw [e] at hg
      obtain ⟨g1, g2⟩ := grd_ok hg
      cases g2
      exact ⟨x, i, d, z, z2, by rw [sizeLine_eq]; exact g1, e, k _ H D [] (Ext.refl le) ⟨rfl, rfl⟩ .nil⟩) (fun x i e => by
      unfold pgetS
      split
      · exact grd_nx (fun z => nomatch z)
      · exact fun z => nomatch z) ha hb hp
theorem E_slS {ra : M Str} {rl rh : M (Option Int)} {lo hi : Option Expr} {p2 : Pos} (ha : ET X G Γ a (dat tStr) ra) (hl : OT X G Γ lo rl) (hh : OT X G Γ hi rh) :
    ET X G Γ (.Subscript a (.Slice lo hi none p2) pos) (dat tStr) (ra.bind fun x => rl.bind fun l => rh.bind fun h => cutT x l h) :=
  E_sl (A := dat tStr) (Q' := dat tStr) (g := cutT) sl_str ha hl hh (fun _ _ _ _ => grd_nx (fun z => nomatch z)) fun H D x v f l h c Q le ⟨_, z⟩ hg k => by
    obtain ⟨g1, g2⟩ := grd_ok hg
    cases g2
    exact ⟨x, z, by rw [sizeLine_eq]; exact g1, k _ H D [] (Ext.refl le) ⟨rfl, rfl⟩ .nil⟩
theorem B_notinS {ra rb : M Str} (ha : ET X G Γ a (dat tStr) ra) (hb : ET X G Γ b (dat tStr) rb) (hm : behindInMarks .NotIn b = false := by rfl) : BT X G Γ (.Compare a [.NotIn] [b] pos) (ra.bind fun x => rb.bind fun y => ok (!inS x y)) :=
  B_cmp (A := dat tStr) (B := dat tStr) (g := fun x y => !inS x y) op_notin_str (fun H D x y va vb fa fb Q le ⟨_, z1⟩ ⟨_, z2⟩ k => ⟨x, y, z1, z2, k⟩) hm ha hb
theorem E_catS {ra rb : M Str} (ha : ET X G Γ a (dat tStr) ra) (hb : ET X G Γ b (dat tStr) rb) : ET X G Γ (.BinOp a .Add b pos) (dat tStr) (ra.bind fun x => rb.bind fun y => pcatS x y) :=
  E_op2 (A := dat tStr) (B := dat tStr) (R := dat tStr) (g := pcatS) op_add_str (fun H D x y va vb fa fb c Q le ⟨_, z1⟩ ⟨_, z2⟩ hg k => by
    obtain ⟨g1, g2⟩ := grd_ok hg
    cases g2
    exact ⟨x, y, z1, z2, by rw [sizeLine_eq]; exact g1, k _ H D [] (Ext.refl le) ⟨rfl, rfl⟩ .nil⟩) (fun _ _ _ => grd_nx (fun z => nomatch z)) ha hb
theorem E_split {ra rb : M Str} {ap : Pos} (ha : ET X G Γ a (dat tStr) ra) (hb : ET X G Γ b (dat tStr) rb) (hs : starEach [b] X.env = [(false, eval b X.env)] := by rfl)
    (hbase : attributeBase a "split" X.env (eval a X.env) = eval a X.env := by rfl) (hline : (ap.endLine == pos.line) = true := by rfl) :
    ET X G Γ (.Call (.Attribute a "split" ap) [b] [] pos) (own tStr) (ra.bind fun x => rb.bind fun y => psplit x y) := fun w =>
  (pe_split (ha w) (hb w) hs hbase hline).weak fun σ H Q ⟨H0, D0, D, os, hr, x, hx, hp⟩ =>
    seqEE hr hx hp fun i H1 D1 fp v _ hx1 e1 r1 f1 hr1 hp1 => ⟨⟨i, r1.2⟩, seqEE hr1 hx1 hp1 fun j H2 D2 fp2 v2 _ hx2 e2 r2 f2 hr2 hp2 => by
      cases x with
      | ex e => exact absurd hx2 (grd_nx (fun z => nomatch z))
      | ok c =>
        obtain ⟨g1, g2⟩ := grd_ok hx2
        cases g2
        exact ⟨i, j, r1.2, by rw [r2.2], g1.1, by rw [sizeLine_eq]; exact g1.2, fun p np => own_new hr2.le np Paired.strs hp2⟩⟩
theorem itok_str {K : Fr} {D1 : Hp} (x : Str) : ItOk K (Its x) D1 tStr (sgns x) := fun i H D e1 e2 => by
  have e : (sgns x)[i]? = x.cps[i]?.map fun c => (⟨#[c]⟩ : Str) := by
    unfold sgns
    rw [List.getElem?_map, Array.getElem?_toList]
  refine ⟨fun y hy => ⟨?_, fun v H' ⟨h1, c, h2, h3⟩ => ⟨D, ?_, ?_⟩⟩, fun hl => ?_⟩
  · rw [e] at hy
    obtain ⟨c, hc, _⟩ := Option.map_eq_some_iff.mp hy
    exact (Array.getElem?_eq_some_iff.mp hc).1
  · rw [h1]; exact Ext.refl e2
  · rw [e, h2] at hy
    cases hy
    exact h3
  · show x.cps.size ≤ i
    have : (sgns x).length = x.cps.size := by unfold sgns; rw [List.length_map, Array.length_toList]
    omega
theorem I_str {r : M Str} (h : ET X G Γ it (dat tStr) r) : ITR X G Γ tg it tStr (r.bind fun x => ok (sgns x)) := fun w =>
  (pi_str (h w)).weak fun σ H Q ⟨H0, D0, D, os, hr, x, hx, hp⟩ => by
    rcases bind_some hx with ⟨s, rfl, hf⟩ | ⟨e, rfl, rfl⟩
    · cases hf
      exact ⟨H0, D0, D, os, hr, _, rfl, fun v H' D' fp e ⟨_, r1⟩ f => ⟨s, r1, hp _ H' D' e (itok_str s)⟩⟩
    · exact ⟨H0, D0, D, os, hr, _, rfl, hp⟩
end
end T
set_option maxRecDepth 100000
set_option maxHeartbeats 1000000
namespace T
open PySem PySem.Spec PyProof.Rows L2
/-! ### the mathematics of mirrors: loops -/
section
variable {α β γ C ρ : Type}
theorem loopM_nil (f : C → α → M C) (c : C) : loopM f c [] = ok c := rfl
theorem loopM_cons (f : C → α → M C) (c : C) (x : α) (xs : List α) : loopM f c (x :: xs) = (f c x).bind fun c' => loopM f c' xs := rfl
/-- a loop by an invariant over its turns -/
theorem loopM_inv {f : C → α → M C} (P : Nat → C → Prop) {xs : List α} {c : C} (h0 : P 0 c) (hs : ∀ (i : Nat) c x, xs[i]? = some x → P i c → ∃ c', f c x = ok c' ∧ P (i + 1) c') :
    ∃ c', loopM f c xs = ok c' ∧ P xs.length c' := by
  induction xs generalizing c P with
  | nil => exact ⟨c, rfl, h0⟩
  | cons x xs ih =>
    obtain ⟨c1, e1, p1⟩ := hs 0 c x (by simp) h0
    obtain ⟨c2, e2, p2⟩ := ih (fun i => P (i + 1)) p1 (fun i c y hy => hs (i + 1) c y (by simpa using hy))
    refine ⟨c2, ?_, p2⟩
    rw [loopM_cons, e1, bind_ok, e2]
/-- a loop whose turns are known: a fold -/
theorem loopM_fold {f : C → α → M C} {g : C → α → C} {xs : List α} {c : C} (P : C → Prop) (h0 : P c) (hs : ∀ c x, x ∈ xs → P c → f c x = ok (g c x) ∧ P (g c x)) :
    loopM f c xs = ok (xs.foldl g c) ∧ P (xs.foldl g c) := by
  induction xs generalizing c with
  | nil => exact ⟨rfl, h0⟩
  | cons x xs ih =>
    obtain ⟨e, p⟩ := hs c x List.mem_cons_self h0
    rw [loopM_cons, e, bind_ok, List.foldl_cons]
    exact ih p fun c y hy => hs c y (List.mem_cons_of_mem _ hy)
/-- a while by an invariant and a measure -/
theorem whileM_inv {t : C → M Bool} {b : C → M C} (P : C → Prop) (μ : C → Nat) (hs : ∀ c, P c → (t c = ok false) ∨ (t c = ok true ∧ ∃ c', b c = ok c' ∧ P c' ∧ μ c' < μ c)) {c : C} (h0 : P c) :
    ∃ c', whileM t b c = ok c' ∧ P c' ∧ t c' = ok false := by
  generalize hn : μ c = n
  induction n using Nat.strongRecOn generalizing c with
  | _ n ih =>
    rcases hs c h0 with h | ⟨h, c1, e1, p1, l1⟩
    · exact ⟨c, by rw [whileM_eq, h]; rfl, h0, h⟩
    · obtain ⟨c2, e2, p2, q2⟩ := ih (μ c1) (hn ▸ l1) p1 rfl
      refine ⟨c2, ?_, p2, q2⟩
      rw [whileM_eq, h, bind_ok, if_pos rfl, e1, bind_ok, e2]
theorem mapC_ok {f : α → M β} {g : α → β} {xs : List α} (h : ∀ x ∈ xs, f x = ok (g x)) (hl : xs.length ≤ sizeLine) : mapC f xs = ok (xs.map g) := by
  have : ∀ ys : List α, (∀ x ∈ ys, f x = ok (g x)) → compG (fun _ => ok true) f ys = ok (ys.map g) := by
    intro ys
    induction ys with
    | nil => intro _; rfl
    | cons y ys ih =>
      intro h
      show (noX (ok true)).bind _ = _
      rw [noX_ok, bind_ok, if_pos rfl, h y List.mem_cons_self, noX_ok, bind_ok, ih fun x hx => h x (List.mem_cons_of_mem _ hx)]
      rfl
  unfold mapC compL
  rw [this xs h, bind_ok]
  exact grd_pos (by rw [List.length_map]; exact hl) _
theorem compL_ok {t : α → M Bool} {p : α → Bool} {f : α → M β} {g : α → β} {xs : List α} (ht : ∀ x ∈ xs, t x = ok (p x)) (h : ∀ x ∈ xs, p x = true → f x = ok (g x)) (hl : xs.length ≤ sizeLine) : compL t f xs = ok ((xs.filter p).map g) := by
  have : ∀ ys : List α, (∀ x ∈ ys, t x = ok (p x)) → (∀ x ∈ ys, p x = true → f x = ok (g x)) → compG t f ys = ok ((ys.filter p).map g) := by
    intro ys
    induction ys with
    | nil => intro _ _; rfl
    | cons y ys ih =>
      intro ht h
      show (noX (t y)).bind _ = _
      rw [ht y List.mem_cons_self, noX_ok, bind_ok, ih (fun x hx => ht x (List.mem_cons_of_mem _ hx)) fun x hx => h x (List.mem_cons_of_mem _ hx)]
      by_cases e : p y = true
      · rw [if_pos e, h y List.mem_cons_self e, noX_ok, bind_ok, bind_ok, List.filter_cons_of_pos e]
        rfl
      · rw [if_neg e, List.filter_cons_of_neg e]
  unfold compL
  rw [this xs ht h, bind_ok]
  refine grd_pos ?_ _
  rw [List.length_map]
  exact Nat.le_trans (List.length_filter_le _ _) hl
end
/-! ### numbers -/
theorem log2_le {x A : Nat} (h : x ≤ A) : x.log2 ≤ A.log2 := by
  by_cases hx : x = 0
  · subst hx; exact Nat.zero_le _
  · have hA : A ≠ 0 := by omega
    have h1 : A < 2 ^ (A.log2 + 1) := (Nat.log2_lt hA).mp (Nat.lt_succ_self _)
    have h2 : x.log2 < A.log2 + 1 := (Nat.log2_lt hx).mpr (by omega)
    omega
theorem pmul_left {x y : Int} (hx : x.natAbs < 2 ^ 64) : pmul x y = ok (x * y) := grd_pos (.inl (.inl hx)) _
theorem pmul_right {x y : Int} (hy : y.natAbs < 2 ^ 64) : pmul x y = ok (x * y) := grd_pos (.inl (.inr hy)) _
theorem pmod_ok {x y : Int} (h : y ≠ 0) : pmod x y = ok (x.fmod y) := grd_pos h _
theorem pmod_pos {x y : Int} (h : 0 < y) : pmod x y = ok (x % y) := by rw [pmod_ok (by omega), Int.fmod_eq_emod_of_nonneg _ (by omega)]
theorem pdiv_ok {x y : Int} (h : y ≠ 0) (h2 : y.natAbs.log2 < 9000) : pdiv x y = ok (x.fdiv y) := grd_pos ⟨h, h2⟩ _
/-! ### lists -/
section
variable {α : Type}
theorem pget_nat {xs : List α} {i : Nat} (h : i < xs.length) : pget xs (i : Int) = ok xs[i] := by
  unfold pget
  rw [atI_nat (List.getElem?_eq_getElem h)]
theorem pget_some {xs : List α} {i : Nat} {x : α} (h : xs[i]? = some x) : pget xs (i : Int) = ok x := by
  unfold pget
  rw [atI_nat h]
theorem papp_ok {xs : List α} {x : α} (h : xs.length < 16777216) : papp xs x = ok (xs ++ [x]) := grd_pos (by rw [sizeLine_eq]; exact h) _
theorem pcat_ok {xs ys : List α} (h : xs.length + ys.length ≤ 16777216) : pcat xs ys = ok (xs ++ ys) := grd_pos (by rw [sizeLine_eq]; exact h) _
theorem prep_ok {x : α} {k : Nat} (h : k ≤ 16777216) : prep [x] (k : Int) = ok (List.replicate k x) := by
  have e : (List.replicate k [x]).flatten = List.replicate k x := by
    induction k with
    | zero => rfl
    | succ k ih => rw [List.replicate_succ, List.flatten_cons, ih (by omega), List.replicate_succ]; rfl
  unfold prep
  rw [grd_pos, Int.toNat_natCast, e]
  rw [Int.toNat_natCast, sizeLine_eq]
  refine ⟨by omega, by omega, ?_⟩
  simp only [List.length_cons, List.length_nil]
  omega
theorem sizeLineE : sizeLine = 16777216 := sizeLine_eq
end
theorem range_get {n i : Nat} {x : Int} (h : (rangeL 0 n)[i]? = some x) : x = (i : Int) ∧ i < n := by
  rw [rangeL_get] at h
  by_cases e : i < n
  · rw [if_pos e] at h
    have := Option.some.inj h
    exact ⟨by omega, e⟩
  · rw [if_neg e] at h; cases h
/-! ### the draws that all laws share -/
noncomputable def m_mixed (cell_here1 : Int) (k2 : Int) (prime3 : Int) : M Int :=
  (M.bind (M.bind (M.bind (M.bind (M.bind (M.bind (pmul (7 * k2) k2) fun u5 => ok (cell_here1 + u5)) fun u6 => ok (u6 + (13 * k2))) fun u7 => ok (u7 + 5)) fun u8 => ok (u8 * 48271)) fun u9 => ok (u9 % 2147483647)) fun far_here4 => (M.bind (M.bind (pmul far_here4 far_here4) fun u11 => ok (u11 % 2147483629)) fun far_here10 => (pmod (far_here10 * 39373) prime3)))
noncomputable def m_draws (cell_here1 : Int) (widths2 : (List Int)) (prime3 : Int) : M (List Int) :=
  (M.bind (ok 0) fun left4 => (M.bind (M.bind (ok (decide (1000000000000000000 ≤ cell_here1))) fun z5 => if z5 = true then (M.bind (ok (cell_here1 - 1000000000000000000)) fun left6 => ok (left6)) else ok (left4)) fun left7 => (M.bind (ok ([] : List Int)) fun found8 => (M.bind (M.bind (prangeI (List.length widths2 : Int)) fun xs => loopM (fun (s9 : Int × (List Int)) k10 => (M.bind (ok (decide (1 < s9.1))) fun z11 => if z11 = true then (M.bind (M.bind (M.bind (pget widths2 k10) fun u12 => (pmod s9.1 u12)) fun u13 => (papp s9.2 u13)) fun found14 => (M.bind (M.bind (pget widths2 k10) fun u16 => (pdiv s9.1 u16)) fun left15 => ok (left15, found14))) else (M.bind (M.bind (M.bind (m_mixed cell_here1 k10 prime3) fun u17 => M.bind (pget widths2 k10) fun u18 => (pmod u17 u18)) fun u19 => (papp s9.2 u19)) fun found20 => ok (s9.1, found20)))) (left7, found8) xs) fun s21 => ok s21.2))))
noncomputable def m_cell (script1 : (List Int)) (k2 : Int) : M Int :=
  (M.bind (ok (decide ((List.length script1 : Int) = 0))) fun z3 => if z3 = true then (ok (7919 * (k2 + 1))) else (M.bind (ok (decide (k2 < (List.length script1 : Int)))) fun z4 => if z4 = true then (pget script1 k2) else (M.bind (M.bind (pmod k2 (List.length script1 : Int)) fun u5 => (pget script1 u5)) fun u6 => ok (u6 + (104729 * k2)))))
theorem mixed_ok (cell : Int) {k prime : Int} (h0 : 0 ≤ k) (h1 : k ≤ 1000000) (hp : 0 < prime) : ∃ v, m_mixed cell k prime = ok v ∧ 0 ≤ v ∧ v < prime := by
  unfold m_mixed
  rw [pmul_right (show k.natAbs < 2 ^ 64 by omega)]
  simp only [bind_okS]
  generalize hf : (cell + 7 * k * k + 13 * k + 5) * 48271 % 2147483647 = f
  have h2 : 0 ≤ f := by rw [← hf]; exact Int.emod_nonneg _ (by decide)
  have h3 : f < 2147483647 := by rw [← hf]; exact Int.emod_lt_of_pos _ (by decide)
  rw [pmul_left (show f.natAbs < 2 ^ 64 by omega), bind_okS, bind_okS, pmod_pos hp]
  exact ⟨_, rfl, Int.emod_nonneg _ (by omega), Int.emod_lt_of_pos _ hp⟩
/-- the draws: as many as widths, each from 0 on and below its width -/
def Drawn (ws rs : List Int) : Prop := rs.length = ws.length ∧ ∀ (i : Nat) (w r : Int), ws[i]? = some w → rs[i]? = some r → 0 ≤ r ∧ r < w
def Widths (ws : List Int) : Prop := ws.length ≤ 100000 ∧ ∀ w ∈ ws, 0 < w ∧ w.natAbs.log2 < 9000
theorem Drawn.snoc {ws rs : List Int} {i : Nat} {w r : Int} (hl : rs.length = i) (hw : ws[i]? = some w) (h0 : 0 ≤ r) (h1 : r < w) (h : ∀ (j : Nat) (w r : Int), ws[j]? = some w → rs[j]? = some r → 0 ≤ r ∧ r < w) :
    ∀ (j : Nat) (w r' : Int), ws[j]? = some w → (rs ++ [r])[j]? = some r' → 0 ≤ r' ∧ r' < w := by
  intro j w' r' e1 e2
  by_cases hj : j < rs.length
  · rw [List.getElem?_append_left hj] at e2; exact h j w' r' e1 e2
  · rw [List.getElem?_append_right (by omega)] at e2
    by_cases hz : j - rs.length = 0
    · rw [hz] at e2
      have e3 : r = r' := by simpa using e2
      have hji : j = i := by omega
      subst hji
      rw [hw] at e1
      have e4 : w = w' := Option.some.inj e1
      subst e3; subst e4
      exact ⟨h0, h1⟩
    · have : j - rs.length = (j - rs.length - 1) + 1 := by omega
      rw [this] at e2
      simp at e2
theorem draws_ok (cell : Int) {ws : List Int} {prime : Int} (hw : Widths ws) (hp : 0 < prime) : ∃ rs, m_draws cell ws prime = ok rs ∧ Drawn ws rs := by
  unfold m_draws
  have hl := hw.1
  simp only [bind_okS, prangeI_nat (show ws.length < 2 ^ 62 by omega)]
  have hleft : ∃ l, (if decide (1000000000000000000 ≤ cell) = true then ok (cell - 1000000000000000000) else ok 0 : M Int) = ok l := by
    by_cases h : 1000000000000000000 ≤ cell
    · rw [if_pos (decide_eq_true h)]; exact ⟨_, rfl⟩
    · rw [if_neg (by simpa using h)]; exact ⟨_, rfl⟩
  obtain ⟨l0, e0⟩ := hleft
  rw [e0, bind_ok]
  have hs : ∀ (i : Nat) (c : Int × List Int) (x : Int), (rangeL 0 ws.length)[i]? = some x → (c.2.length = i ∧ ∀ (j : Nat) (w r : Int), ws[j]? = some w → c.2[j]? = some r → 0 ≤ r ∧ r < w) → ∃ c', (fun (s9 : Int × (List Int)) k10 => if decide (1 < s9.1) = true then (((pget ws k10).bind fun u12 => pmod s9.1 u12).bind fun u13 => papp s9.2 u13).bind fun found14 => ((pget ws k10).bind fun u16 => pdiv s9.1 u16).bind fun left15 => ok (left15, found14)
      else (((m_mixed cell k10 prime).bind fun u17 => (pget ws k10).bind fun u18 => pmod u17 u18).bind fun u19 => papp s9.2 u19).bind fun found20 => ok (s9.1, found20)) c x = ok c' ∧ (c'.2.length = i + 1 ∧ ∀ (j : Nat) (w r : Int), ws[j]? = some w → c'.2[j]? = some r → 0 ≤ r ∧ r < w) := by
    rintro i ⟨l, rs⟩ x hx ⟨h1, h2⟩
    obtain ⟨rfl, hi⟩ := range_get hx
    have h1 : rs.length = i := h1
    have hwi : ws[i]? = some ws[i] := List.getElem?_eq_getElem hi
    obtain ⟨w0, w1⟩ := hw.2 _ (List.getElem_mem hi)
    have happ : ∀ r, papp rs r = ok (rs ++ [r]) := fun r => papp_ok (by omega)
    dsimp only
    by_cases hl1 : 1 < l
    · rw [if_pos (decide_eq_true hl1), pget_nat hi, bind_ok, pmod_pos w0, bind_ok, happ, bind_ok, bind_ok, pdiv_ok (by omega) w1, bind_ok]
      exact ⟨_, rfl, by simp [h1], Drawn.snoc h1 hwi (Int.emod_nonneg _ (by omega)) (Int.emod_lt_of_pos _ w0) h2⟩
    · obtain ⟨v, e, v0, v1⟩ := mixed_ok cell (k := (i : Int)) (by omega) (by omega) hp
      rw [if_neg (by simpa using hl1), e, bind_ok, pget_nat hi, bind_ok, pmod_pos w0, bind_ok, happ, bind_ok]
      exact ⟨_, rfl, by simp [h1], Drawn.snoc h1 hwi (Int.emod_nonneg _ (by omega)) (Int.emod_lt_of_pos _ w0) h2⟩
  obtain ⟨c, e1, p1⟩ := loopM_inv (fun i (c : Int × List Int) => c.2.length = i ∧ ∀ (j : Nat) (w r : Int), ws[j]? = some w → c.2[j]? = some r → 0 ≤ r ∧ r < w) (c := (l0, [])) ⟨rfl, fun j w r _ z => by simp at z⟩ hs
  rw [e1, bind_ok]
  rw [rangeL_len] at p1
  exact ⟨c.2, rfl, p1.1, p1.2⟩
theorem Drawn.at {ws rs : List Int} (h : Drawn ws rs) {i : Nat} {w : Int} (hw : ws[i]? = some w) : ∃ r, rs[i]? = some r ∧ 0 ≤ r ∧ r < w := by
  obtain ⟨hi, e⟩ := List.getElem?_eq_some_iff.mp hw
  have hi' : i < rs.length := by rw [h.1]; exact hi
  exact ⟨rs[i], List.getElem?_eq_getElem hi', h.2 i w rs[i] hw (List.getElem?_eq_getElem hi')⟩
theorem Widths.of {ws : List Int} (h : (ws.length ≤ 100000 ∧ ws.all fun w => decide (0 < w) && decide (w.natAbs.log2 < 9000)) := by decide +kernel) : Widths ws :=
  ⟨h.1, fun w hw => by
    have := List.all_eq_true.mp h.2 w hw
    simpa using this⟩
theorem cell_ok {script : List Int} {k : Int} (hl : script.length ≤ 63) (h0 : 0 ≤ k) : ∃ v, m_cell script k = ok v := by
  unfold m_cell
  simp only [bind_okS]
  by_cases h : (script.length : Int) = 0
  · rw [if_pos (decide_eq_true h)]; exact ⟨_, rfl⟩
  · rw [if_neg (by simpa using h)]
    by_cases h2 : k < script.length
    · rw [if_pos (decide_eq_true h2)]
      obtain ⟨n, rfl⟩ := Int.eq_ofNat_of_zero_le h0
      have : n < script.length := by omega
      exact ⟨_, pget_nat this⟩
    · rw [if_neg (by simpa using h2), pmod_pos (by omega), bind_ok]
      have hn := Int.emod_nonneg k (show (script.length : Int) ≠ 0 from h)
      have hlt := Int.emod_lt_of_pos k (show (0 : Int) < script.length by omega)
      obtain ⟨n, e⟩ := Int.eq_ofNat_of_zero_le hn
      rw [e] at hlt ⊢
      have : n < script.length := by omega
      rw [pget_nat this, bind_ok]
      exact ⟨_, rfl⟩
end T
set_option maxRecDepth 100000
namespace T
open PySem PySem.Spec PyProof.Rows L2
theorem mapC_ex {α β : Type} {f : α → M β} {P : α → β → Prop} {xs : List α} (h : ∀ x ∈ xs, ∃ y, f x = ok y ∧ P x y) (hl : xs.length ≤ 16777216) :
    ∃ ys, mapC f xs = ok ys ∧ ys.length = xs.length ∧ (∀ (i : Nat) x y, xs[i]? = some x → ys[i]? = some y → P x y) ∧ ∀ y ∈ ys, ∃ x ∈ xs, P x y := by
  have : ∀ ys : List α, (∀ x ∈ ys, ∃ y, f x = ok y ∧ P x y) → ∃ zs, compG (fun _ => ok true) f ys = ok zs ∧ zs.length = ys.length ∧ (∀ (i : Nat) x y, ys[i]? = some x → zs[i]? = some y → P x y) ∧ ∀ y ∈ zs, ∃ x ∈ ys, P x y := by
    intro ys
    induction ys with
    | nil => intro _; exact ⟨[], rfl, rfl, fun i x y h => by simp at h, fun y hy => nomatch hy⟩
    | cons a ys ih =>
      intro h
      obtain ⟨zs, e, l, g, m⟩ := ih fun x hx => h x (List.mem_cons_of_mem _ hx)
      obtain ⟨b, eb, pb⟩ := h a List.mem_cons_self
      refine ⟨b :: zs, ?_, by simp [l], fun i x y hx hy => ?_, fun y hy => ?_⟩
      · show (noX (ok true)).bind _ = _
        rw [noX_ok, bind_ok, if_pos rfl, eb, noX_ok, bind_ok, e]
        rfl
      · cases i with
        | zero => simp at hx hy; subst hx; subst hy; exact pb
        | succ i => exact g i x y (by simpa using hx) (by simpa using hy)
      · rcases List.mem_cons.mp hy with z | z
        · subst z; exact ⟨a, List.mem_cons_self, pb⟩
        · obtain ⟨x, hx, p⟩ := m y z
          exact ⟨x, List.mem_cons_of_mem _ hx, p⟩
  obtain ⟨ys, e, l, g, m⟩ := this xs h
  refine ⟨ys, ?_, l, g, m⟩
  unfold mapC compL
  rw [e, bind_ok]
  exact grd_pos (by rw [sizeLine_eq, l]; exact hl) _
theorem pset_nat {α : Type} {xs : List α} {i : Nat} {x : α} (h : i < xs.length) : pset xs (i : Int) x = ok (xs.set i x) := by
  unfold pset
  have e : ixN xs.length (i : Int) = some i := by
    unfold ixN
    rw [if_pos (by omega), if_pos (by omega)]; simp
  rw [e]
/-! ### small numbers -/
def Sm (k : Nat) (x : Int) : Prop := x.natAbs.log2 ≤ k
theorem mul_sm {x y : Int} {j k : Nat} (hx : Sm j x) (hy : Sm k y) (h : j + k < 1000000) : pmul x y = ok (x * y) := grd_pos (.inr (by unfold Sm at hx hy; omega)) _
theorem log2_mul (a b : Nat) : (a * b).log2 ≤ a.log2 + b.log2 + 1 := by
  by_cases ha : a = 0
  · subst ha; rw [Nat.zero_mul]; exact Nat.zero_le _
  by_cases hb : b = 0
  · subst hb; rw [Nat.mul_zero]; exact Nat.zero_le _
  have h1 : a < 2 ^ (a.log2 + 1) := (Nat.log2_lt ha).mp (Nat.lt_succ_self _)
  have h2 : b < 2 ^ (b.log2 + 1) := (Nat.log2_lt hb).mp (Nat.lt_succ_self _)
  have h3 : a * b < 2 ^ (a.log2 + 1) * 2 ^ (b.log2 + 1) := Nat.mul_lt_mul'' h1 h2
  rw [← Nat.pow_add] at h3
  have hab : a * b ≠ 0 := Nat.mul_ne_zero ha hb
  have := (Nat.log2_lt hab).mpr h3
  omega
theorem log2_add (a b : Nat) : (a + b).log2 ≤ max a.log2 b.log2 + 1 := by
  by_cases ha : a = 0
  · subst ha; rw [Nat.zero_add]; omega
  by_cases hb : b = 0
  · subst hb; rw [Nat.add_zero]; omega
  have h1 : a < 2 ^ (a.log2 + 1) := (Nat.log2_lt ha).mp (Nat.lt_succ_self _)
  have h2 : b < 2 ^ (b.log2 + 1) := (Nat.log2_lt hb).mp (Nat.lt_succ_self _)
  have h4 : 2 ^ (a.log2 + 1) ≤ 2 ^ (max a.log2 b.log2 + 1) := Nat.pow_le_pow_right (by decide) (by omega)
  have h5 : 2 ^ (b.log2 + 1) ≤ 2 ^ (max a.log2 b.log2 + 1) := Nat.pow_le_pow_right (by decide) (by omega)
  have e : 2 ^ (max a.log2 b.log2 + 1 + 1) = 2 ^ (max a.log2 b.log2 + 1) * 2 := Nat.pow_succ _ _
  have : a + b < 2 ^ (max a.log2 b.log2 + 1 + 1) := by omega
  have := (Nat.log2_lt (show a + b ≠ 0 by omega)).mpr this
  omega
theorem Sm.mul {x y : Int} {j k : Nat} (hx : Sm j x) (hy : Sm k y) : Sm (j + k + 1) (x * y) := by
  unfold Sm at *
  rw [Int.natAbs_mul]
  have := log2_mul x.natAbs y.natAbs
  omega
theorem Sm.mono {x : Int} {j k : Nat} (hx : Sm j x) (h : j ≤ k) : Sm k x := Nat.le_trans hx h
theorem Sm.add {x y : Int} {j k : Nat} (hx : Sm j x) (hy : Sm k y) : Sm (max j k + 1) (x + y) := by
  unfold Sm at *
  have h1 := log2_add x.natAbs y.natAbs
  have h2 := log2_le (Int.natAbs_add_le x y)
  omega
theorem Sm.neg {x : Int} {j : Nat} (hx : Sm j x) : Sm j (-x) := by unfold Sm at *; rw [Int.natAbs_neg]; exact hx
theorem Sm.sub {x y : Int} {j k : Nat} (hx : Sm j x) (hy : Sm k y) : Sm (max j k + 1) (x - y) := by rw [Int.sub_eq_add_neg]; exact hx.add hy.neg
theorem Sm.of {x : Int} {A k : Nat} (h : x.natAbs ≤ A) (hk : A.log2 ≤ k := by decide +kernel) : Sm k x := Nat.le_trans (log2_le h) hk
end T
set_option maxRecDepth 100000
namespace T
open PySem PySem.Spec PyProof.Rows L2
/-! ### rows as polynomials -/
def co (xs : List Int) (t : Nat) : Int := (xs[t]?).getD 0
theorem co_nil (t : Nat) : co [] t = 0 := rfl
theorem co_zero (a : Int) (xs : List Int) : co (a :: xs) 0 = a := rfl
theorem co_succ (a : Int) (xs : List Int) (t : Nat) : co (a :: xs) (t + 1) = co xs t := by unfold co; simp
theorem co_get {xs : List Int} {t : Nat} (h : t < xs.length) : co xs t = xs[t] := by unfold co; simp [h]
theorem co_out {xs : List Int} {t : Nat} (h : xs.length ≤ t) : co xs t = 0 := by unfold co; simp [h]
theorem co_some {xs : List Int} {t : Nat} {x : Int} (h : xs[t]? = some x) : co xs t = x := by unfold co; rw [h]; rfl
theorem pget_co {xs : List Int} {t : Nat} (h : t < xs.length) : pget xs (t : Int) = ok (co xs t) := by rw [pget_nat h, co_get h]
theorem co_mem {xs : List Int} {t : Nat} (h : t < xs.length) : co xs t ∈ xs := by rw [co_get h]; exact List.getElem_mem h
theorem co_ext {xs ys : List Int} (hl : xs.length = ys.length) (h : ∀ t, co xs t = co ys t) : xs = ys := by
  apply List.ext_getElem hl
  intro i h1 h2
  have := h i
  rwa [co_get h1, co_get h2] at this
theorem co_set {xs : List Int} {i : Nat} {x : Int} (h : i < xs.length) (t : Nat) : co (xs.set i x) t = if t = i then x else co xs t := by
  unfold co
  by_cases e : t = i
  · subst e; rw [if_pos rfl, List.getElem?_set_self h]; rfl
  · rw [if_neg e, List.getElem?_set_ne (fun z => e z.symm)]
theorem co_append_l {xs ys : List Int} {t : Nat} (h : t < xs.length) : co (xs ++ ys) t = co xs t := by unfold co; rw [List.getElem?_append_left h]
theorem co_append_r {xs ys : List Int} {t : Nat} (h : xs.length ≤ t) : co (xs ++ ys) t = co ys (t - xs.length) := by unfold co; rw [List.getElem?_append_right h]
theorem co_rep0 (n t : Nat) : co (List.replicate n 0) t = 0 := by
  unfold co
  rw [List.getElem?_replicate]
  split <;> rfl
theorem co_app0 (xs : List Int) (n t : Nat) : co (xs ++ List.replicate n 0) t = co xs t := by
  by_cases h : t < xs.length
  · exact co_append_l h
  · rw [co_append_r (by omega), co_rep0, co_out (by omega)]
theorem co_take (xs : List Int) (m t : Nat) : co (xs.take m) t = if t < m then co xs t else 0 := by
  unfold co
  rw [List.getElem?_take]
  split <;> rfl
theorem co_map (xs : List Int) (f : Int → Int) (h0 : f 0 = 0) (t : Nat) : co (xs.map f) t = f (co xs t) := by
  unfold co
  rw [List.getElem?_map]
  cases xs[t]? with
  | none => exact h0.symm
  | some x => rfl
/-- the value at z -/
def ev : List Int → Int → Int
  | [], _ => 0
  | a :: t, z => a + z * ev t z
theorem ev_zero (z : Int) : ∀ {xs : List Int}, (∀ t, co xs t = 0) → ev xs z = 0
  | [], _ => rfl
  | a :: xs, h => by
    have h0 : a = 0 := h 0
    have h1 : ev xs z = 0 := ev_zero z fun t => by rw [← co_succ a]; exact h (t + 1)
    show a + z * ev xs z = 0
    rw [h0, h1]; simp
theorem ev_co (z : Int) : ∀ {xs ys : List Int}, (∀ t, co xs t = co ys t) → ev xs z = ev ys z
  | [], ys, h => (ev_zero z fun t => (h t).symm).symm
  | xs, [], h => ev_zero z h
  | a :: xs, b :: ys, h => by
    have h0 : a = b := h 0
    have h1 : ev xs z = ev ys z := ev_co z fun t => by rw [← co_succ a, ← co_succ b]; exact h (t + 1)
    show a + z * ev xs z = b + z * ev ys z
    rw [h0, h1]
/-! noughts at the end -/
def cutP : List Int → List Int
  | [] => []
  | a :: t => match cutP t with
    | [] => if a = 0 then [] else [a]
    | b :: l => a :: b :: l
theorem cutP_co : ∀ (xs : List Int) (t : Nat), co (cutP xs) t = co xs t
  | [], t => rfl
  | a :: xs, t => by
    have ih := cutP_co xs
    unfold cutP
    cases e : cutP xs with
    | nil =>
      rw [e] at ih
      by_cases h : a = 0
      · simp only [h, if_true]
        cases t with
        | zero => rfl
        | succ t => rw [co_succ, ← ih t]; rfl
      · simp only [h, if_false]
        cases t with
        | zero => rfl
        | succ t => rw [co_succ, co_succ, ← ih t]
    | cons b l =>
      rw [e] at ih
      cases t with
      | zero => rfl
      | succ t => rw [co_succ, co_succ]; exact ih t
def Cut (xs : List Int) : Prop := xs = [] ∨ ∃ a l, xs = l ++ [a] ∧ a ≠ 0
theorem cutP_cut : ∀ xs : List Int, Cut (cutP xs)
  | [] => .inl rfl
  | a :: xs => by
    have ih := cutP_cut xs
    unfold cutP
    cases e : cutP xs with
    | nil =>
      by_cases h : a = 0
      · simp only [h, if_true]; exact .inl rfl
      · simp only [h, if_false]; exact .inr ⟨a, [], rfl, h⟩
    | cons b l =>
      rw [e] at ih
      rcases ih with z | ⟨x, m, h1, h2⟩
      · cases z
      · exact .inr ⟨x, a :: m, by rw [List.cons_append, ← h1], h2⟩
theorem Cut.last {xs : List Int} (h : Cut xs) (hn : xs ≠ []) : co xs (xs.length - 1) ≠ 0 := by
  rcases h with z | ⟨a, l, rfl, ha⟩
  · exact absurd z hn
  · rw [List.length_append, co_append_r (by simp)]
    simp
    exact ha
theorem Cut.eq {xs ys : List Int} (h1 : Cut xs) (h2 : Cut ys) (h : ∀ t, co xs t = co ys t) : xs = ys := by
  have key : ∀ {xs ys : List Int}, Cut xs → (∀ t, co xs t = co ys t) → xs.length ≤ ys.length := fun {xs ys} h1 h => by
    by_cases hn : xs = []
    · subst hn; exact Nat.zero_le _
    · have := h1.last hn
      rw [h] at this
      have hp : 0 < xs.length := List.length_pos_iff.mpr hn
      by_cases hl : xs.length ≤ ys.length
      · exact hl
      · exact absurd (co_out (by omega)) this
  exact co_ext (Nat.le_antisymm (key h1 h) (key h2 fun t => (h t).symm)) h
theorem cutP_eq {xs ys : List Int} (h2 : Cut ys) (h : ∀ t, co xs t = co ys t) : cutP xs = ys := Cut.eq (cutP_cut xs) h2 fun t => (cutP_co xs t).trans (h t)
theorem cutP_of {xs : List Int} (h : Cut xs) : cutP xs = xs := cutP_eq h fun _ => rfl
theorem cutP_congr {xs ys : List Int} (h : ∀ t, co xs t = co ys t) : cutP xs = cutP ys := cutP_eq (cutP_cut ys) fun t => (h t).trans (cutP_co ys t).symm
theorem cutP_len : ∀ xs : List Int, (cutP xs).length ≤ xs.length := fun xs => by
  by_cases hn : cutP xs = []
  · rw [hn]; exact Nat.zero_le _
  · have := (cutP_cut xs).last hn
    rw [cutP_co] at this
    have hp : 0 < (cutP xs).length := List.length_pos_iff.mpr hn
    by_cases hl : (cutP xs).length ≤ xs.length
    · exact hl
    · exact absurd (co_out (by omega)) this
theorem cutP_mem {xs : List Int} {x : Int} (h : x ∈ cutP xs) : x ∈ xs := by
  obtain ⟨i, hi⟩ := List.getElem?_of_mem h
  have h1 : i < (cutP xs).length := (List.getElem?_eq_some_iff.mp hi).1
  have := cutP_co xs i
  rw [co_some hi] at this
  rw [this]
  exact co_mem (Nat.lt_of_lt_of_le h1 (cutP_len xs))
theorem cutP_take {xs : List Int} {m : Nat} (hm : m ≤ xs.length) (h0 : ∀ t, m ≤ t → co xs t = 0) (h1 : m = 0 ∨ co xs (m - 1) ≠ 0) : cutP xs = xs.take m := by
  refine cutP_eq ?_ fun t => ?_
  · rcases h1 with rfl | h1
    · exact .inl (by simp)
    · by_cases hz : m = 0
      · subst hz; exact .inl (by simp)
      · refine .inr ⟨co xs (m - 1), xs.take (m - 1), ?_, h1⟩
        have e : xs.take m = xs.take (m - 1) ++ [xs[m - 1]] := by
          have := List.take_succ_eq_append_getElem (l := xs) (i := m - 1) (by omega)
          rwa [show m - 1 + 1 = m by omega] at this
        rw [e, co_get (by omega)]
  · rw [co_take]
    split
    · rfl
    · exact h0 t (by omega)
theorem cutL_to {α : Type} {xs : List α} {m : Nat} (h : m ≤ xs.length) : cutL xs none (some (m : Int)) = xs.take m := by
  unfold cutL
  rw [show HT.sIx xs.length xs.length (some (m : Int)) = min m xs.length from HT.sIx_nat xs.length xs.length m, HT.sIx_none, Nat.min_eq_left h, List.drop_zero, Nat.sub_zero]
noncomputable def m_cut (row1 : (List Int)) : M (List Int) :=
  (M.bind (ok (List.length row1 : Int)) fun many2 => (M.bind (whileM (fun (many3 : Int) => (M.bind (ok (decide (0 < many3))) fun z5 => if z5 = true then (M.bind (pget row1 (many3 - 1)) fun u4 => ok (decide (u4 = 0))) else ok false)) (fun (many3 : Int) => (M.bind (ok (many3 - 1)) fun many6 => ok (many6))) (many2)) fun many7 => (ok (cutL row1 none (some many7)))))
theorem cut_ok (xs : List Int) : m_cut xs = ok (cutP xs) := by
  unfold m_cut
  rw [bind_okS]
  obtain ⟨c, e, ⟨m, rfl, hm, h0⟩, ht⟩ := whileM_inv (t := fun (many3 : Int) => (M.bind (ok (decide (0 < many3))) fun z5 => if z5 = true then (M.bind (pget xs (many3 - 1)) fun u4 => ok (decide (u4 = 0))) else ok false)) (b := fun (many3 : Int) => (M.bind (ok (many3 - 1)) fun many6 => ok (many6)))
    (fun c => ∃ m : Nat, c = (m : Int) ∧ m ≤ xs.length ∧ ∀ t, m ≤ t → co xs t = 0) (fun c => c.toNat) (fun c ⟨m, hc, hm, h0⟩ => by
      subst hc
      rw [bind_okS]
      by_cases hz : m = 0
      · subst hz
        exact .inl (if_neg (by simp))
      · rw [if_pos (decide_eq_true (by omega)), show (m : Int) - 1 = ((m - 1 : Nat) : Int) by omega, pget_co (by omega), bind_ok]
        by_cases h1 : co xs (m - 1) = 0
        · refine .inr ⟨by rw [decide_eq_true h1], _, rfl, ⟨m - 1, rfl, by omega, fun t ht => ?_⟩, by omega⟩
          by_cases e : t = m - 1
          · rw [e]; exact h1
          · exact h0 t (by omega)
        · exact .inl (by rw [decide_eq_false h1])) (c := (xs.length : Int)) ⟨xs.length, rfl, Nat.le_refl _, fun t ht => co_out ht⟩
  rw [e, bind_ok, cutL_to hm, cutP_take hm h0]
  by_cases hz : m = 0
  · exact .inl hz
  · right
    intro h1
    rw [bind_okS, if_pos (decide_eq_true (by omega)), show (m : Int) - 1 = ((m - 1 : Nat) : Int) by omega, pget_co (by omega), bind_ok, decide_eq_true h1] at ht
    cases ht
/-! sums -/
def addP : List Int → List Int → List Int
  | [], g => g
  | a :: f, [] => a :: f
  | a :: f, b :: g => (a + b) :: addP f g
theorem addP_co : ∀ (f g : List Int) (t : Nat), co (addP f g) t = co f t + co g t
  | [], g, t => by show co g t = _; rw [co_nil]; omega
  | a :: f, [], t => by show co (a :: f) t = _; rw [co_nil]; omega
  | a :: f, b :: g, 0 => rfl
  | a :: f, b :: g, t + 1 => by show co (_ :: addP f g) (t + 1) = _; rw [co_succ, co_succ, co_succ, addP_co]
theorem addP_ev (z : Int) : ∀ f g : List Int, ev (addP f g) z = ev f z + ev g z
  | [], g => by show ev g z = 0 + ev g z; omega
  | a :: f, [] => by show ev (a :: f) z = ev (a :: f) z + 0; omega
  | a :: f, b :: g => by
    show (a + b) + z * ev (addP f g) z = (a + z * ev f z) + (b + z * ev g z)
    rw [addP_ev z f g]; grind
def scaleP (c : Int) (f : List Int) : List Int := f.map (c * ·)
theorem scaleP_co (c : Int) (f : List Int) (t : Nat) : co (scaleP c f) t = c * co f t := co_map f (c * ·) (Int.mul_zero c) t
theorem scaleP_ev (c z : Int) : ∀ f : List Int, ev (scaleP c f) z = c * ev f z
  | [] => by show (0 : Int) = c * 0; omega
  | a :: f => by show c * a + z * ev (scaleP c f) z = c * (a + z * ev f z); rw [scaleP_ev c z f]; grind
/-! products -/
def mulP : List Int → List Int → List Int
  | [], _ => []
  | a :: f, g => addP (scaleP a g) (0 :: mulP f g)
theorem mulP_ev (z : Int) (g : List Int) : ∀ f : List Int, ev (mulP f g) z = ev f z * ev g z
  | [] => by show (0 : Int) = 0 * _; omega
  | a :: f => by
    show ev (addP (scaleP a g) (0 :: mulP f g)) z = (a + z * ev f z) * ev g z
    rw [addP_ev, scaleP_ev]
    show a * ev g z + (0 + z * ev (mulP f g) z) = _
    rw [mulP_ev z g f]; grind
theorem mulP_cons_zero (a : Int) (f g : List Int) : co (mulP (a :: f) g) 0 = a * co g 0 := by
  show co (addP (scaleP a g) (0 :: mulP f g)) 0 = _
  rw [addP_co, scaleP_co, co_zero]; omega
theorem mulP_cons_succ (a : Int) (f g : List Int) (t : Nat) : co (mulP (a :: f) g) (t + 1) = a * co g (t + 1) + co (mulP f g) t := by
  show co (addP (scaleP a g) (0 :: mulP f g)) (t + 1) = _
  rw [addP_co, scaleP_co, co_succ]
theorem mulP_snoc (x : Int) (g : List Int) : ∀ (f : List Int) (t : Nat), co (mulP (f ++ [x]) g) t = co (mulP f g) t + if f.length ≤ t then x * co g (t - f.length) else 0
  | [], 0 => by
    show co (mulP [x] g) 0 = 0 + _
    rw [mulP_cons_zero]; simp
  | [], t + 1 => by
    show co (mulP [x] g) (t + 1) = 0 + _
    rw [mulP_cons_succ]; simp [mulP, co_nil]
  | a :: f, 0 => by
    rw [List.cons_append, mulP_cons_zero, mulP_cons_zero]; simp
  | a :: f, t + 1 => by
    rw [List.cons_append, mulP_cons_succ, mulP_cons_succ, mulP_snoc x g f t, List.length_cons]
    have : (f.length + 1 ≤ t + 1) = (f.length ≤ t) := by rw [Nat.add_le_add_iff_right]
    simp only [this, Nat.add_sub_add_right]
    omega
theorem mulP_out (g : List Int) : ∀ (f : List Int) (t : Nat), f.length + g.length ≤ t + 1 → f = [] ∨ 0 < g.length → co (mulP f g) t = 0
  | [], t, _, _ => rfl
  | a :: f, 0, h, hg => by
    rcases hg with z | hg
    · cases z
    · rw [List.length_cons] at h; omega
  | a :: f, t + 1, h, hg => by
    rcases hg with z | hg
    · cases z
    · rw [List.length_cons] at h
      rw [mulP_cons_succ, co_out (by omega), mulP_out g f t (by omega) (.inr hg)]
      omega
theorem mulP_nil_r : ∀ (f : List Int) (t : Nat), co (mulP f []) t = 0
  | [], t => rfl
  | a :: f, 0 => by rw [mulP_cons_zero, co_nil]; omega
  | a :: f, t + 1 => by rw [mulP_cons_succ, co_nil, mulP_nil_r f t]; omega
/-- the place on top -/
theorem mulP_top (g : List Int) (hg : 0 < g.length) : ∀ (f : List Int), 0 < f.length → co (mulP f g) (f.length + g.length - 2) = co f (f.length - 1) * co g (g.length - 1)
  | [], h => nomatch h
  | [a], _ => by
    have e : [a].length + g.length - 2 = g.length - 1 := by simp; omega
    rw [e]
    show _ = a * _
    by_cases h : g.length - 1 = 0
    · rw [h, mulP_cons_zero]
    · obtain ⟨t, ht⟩ := Nat.exists_eq_succ_of_ne_zero h
      rw [ht, Nat.succ_eq_add_one, mulP_cons_succ]; simp [mulP, co_nil]
  | a :: b :: f, _ => by
    have ih := mulP_top g hg (b :: f) (by simp)
    have e : (a :: b :: f).length + g.length - 2 = ((b :: f).length + g.length - 2) + 1 := by simp only [List.length_cons]; omega
    have e2 : (a :: b :: f).length - 1 = ((b :: f).length - 1) + 1 := by simp only [List.length_cons]; omega
    rw [e, mulP_cons_succ, ih, e2, co_succ, co_out (show g.length ≤ (b :: f).length + g.length - 2 + 1 by simp only [List.length_cons]; omega)]
    omega
/-! Horner's loop -/
theorem horner_ok {xs : List Int} {z : Int} {f : Int → Int → M Int} {a m : Nat} (hx : ∀ x ∈ xs, Sm a x) (hz : Sm m z) (hl : (xs.length + 1) * (m + a + 2) + m < 1000000) (hf : ∀ v p, pmul v z = ok (v * z) → f v p = ok (v * z + p)) :
    loopM f 0 xs.reverse = ok (ev xs z) := by
  have e1 : ∀ ys : List Int, ys.reverse.foldl (fun v p => v * z + p) 0 = ev ys z := fun ys => by
    rw [List.foldl_reverse]
    induction ys with
    | nil => rfl
    | cons y ys ih =>
      show List.foldr (fun x y => y * z + x) 0 ys * z + y = y + z * ev ys z
      rw [ih]; grind
  have e2 : ∀ (ys : List Int) (v : Int) (k : Nat), (∀ y ∈ ys, Sm a y) → Sm k v → k + (ys.length + 1) * (m + a + 2) + m < 1000000 → loopM f v ys = ok (ys.foldl (fun v p => v * z + p) v) := by
    intro ys
    induction ys with
    | nil => intro v k _ _ _; rfl
    | cons y ys ih =>
      intro v k hy hv hk
      have hm : (List.length (y :: ys) + 1) * (m + a + 2) = (ys.length + 1) * (m + a + 2) + (m + a + 2) := by rw [List.length_cons, Nat.add_mul (ys.length + 1) 1, Nat.one_mul]
      rw [hm] at hk
      rw [loopM_cons, hf v y (mul_sm hv hz (by omega)), bind_ok]
      exact ih (v * z + y) (k + (m + a + 2)) (fun x h => hy x (List.mem_cons_of_mem _ h)) (((hv.mul hz).add (hy y List.mem_cons_self)).mono (by omega)) (by omega)
  rw [← e1]
  exact e2 xs.reverse 0 0 (fun y hy => hx y (List.mem_reverse.mp hy)) (by unfold Sm; decide) (by rw [List.length_reverse]; omega)
/-! places added into a row -/
theorem addInto {N i n : Nat} {step : List Int → Int → M (List Int)} {s : Nat → Int} {L : List Int} (hL : L.length = N) (hi : i + n ≤ N)
    (hs : ∀ (c : List Int) (j : Nat), c.length = N → j < n → step c (j : Int) = ok (c.set (i + j) (co c (i + j) + s j))) :
    ∃ L', loopM step L (rangeL 0 n) = ok L' ∧ L'.length = N ∧ ∀ t, co L' t = co L t + if i ≤ t ∧ t < i + n then s (t - i) else 0 := by
  obtain ⟨c, e, h1, h2⟩ := loopM_inv (f := step) (fun j (c : List Int) => c.length = N ∧ ∀ t, co c t = co L t + if i ≤ t ∧ t < i + j then s (t - i) else 0) (xs := rangeL 0 n) (c := L)
    ⟨hL, fun t => by rw [if_neg (by omega)]; omega⟩ (fun j c x hx ⟨h1, h2⟩ => by
      obtain ⟨rfl, hj⟩ := range_get hx
      refine ⟨_, hs c j h1 hj, by rw [List.length_set]; exact h1, fun t => ?_⟩
      rw [co_set (by omega)]
      by_cases e : t = i + j
      · subst e
        rw [if_pos rfl, h2, if_neg (by omega), if_pos (by omega), show i + j - i = j by omega]; omega
      · rw [if_neg e, h2]
        have : (i ≤ t ∧ t < i + j) ↔ (i ≤ t ∧ t < i + (j + 1)) := by omega
        simp only [this])
  rw [rangeL_len] at h2
  exact ⟨c, e, h1, h2⟩
end T
set_option maxRecDepth 100000
namespace T
open PySem PySem.Spec PyProof.Rows L2
/-! ### the law's questions about a row -/
noncomputable def m_whole (found1 : Int) : M Bool :=
  (M.bind (ok true) fun z2 => if z2 = true then (ok (!false)) else ok false)
theorem whole_ok (x : Int) : m_whole x = ok true := rfl
noncomputable def m_horner (row1 : (List Int)) (z2 : Int) : M Int :=
  (M.bind (ok 0) fun total3 => (M.bind (M.bind (ok (List.reverse row1)) fun xs => loopM (fun (total4 : Int) place5 => (M.bind (M.bind (pmul total4 z2) fun u7 => ok (u7 + place5)) fun total6 => ok (total6))) (total3) xs) fun total8 => (ok total8)))
theorem horner_val {xs : List Int} {z : Int} {a m : Nat} (hx : ∀ x ∈ xs, Sm a x) (hz : Sm m z) (hl : (xs.length + 1) * (m + a + 2) + m < 1000000) : m_horner xs z = ok (ev xs z) := by
  unfold m_horner
  rw [bind_okS, bind_okS, horner_ok hx hz hl fun v p h => by rw [h]; rfl]
  rfl
/-! ### the program's rows -/
def subP (f g : List Int) : List Int := addP f (scaleP (-1) g)
theorem subP_co (f g : List Int) (t : Nat) : co (subP f g) t = co f t - co g t := by unfold subP; rw [addP_co, scaleP_co]; omega
theorem subP_ev (f g : List Int) (z : Int) : ev (subP f g) z = ev f z - ev g z := by unfold subP; rw [addP_ev, scaleP_ev]; omega
end T
set_option maxRecDepth 100000
namespace T
open PySem PySem.Spec PyProof.Rows L2
/-! ### division by a monic row -/
theorem Cut.len_le {xs : List Int} (h : Cut xs) {n : Nat} (h0 : ∀ t, n ≤ t → co xs t = 0) : xs.length ≤ n := by
  by_cases hn : xs = []
  · subst hn; exact Nat.zero_le _
  · have h1 := h.last hn
    have hp : 0 < xs.length := List.length_pos_iff.mpr hn
    by_cases hl : xs.length ≤ n
    · exact hl
    · exact absurd (h0 _ (by omega)) h1
theorem co_lt {xs : List Int} {t : Nat} (h : co xs t ≠ 0) : t < xs.length := by
  by_cases hl : t < xs.length
  · exact hl
  · exact absurd (co_out (by omega)) h
theorem rangeD_at {lo n k : Nat} {x : Int} (h : (rangeD (lo : Int) n)[k]? = some x) (hl : n ≤ lo + 1) : x = ((lo - k : Nat) : Int) ∧ k < n := by
  rw [rangeD_get] at h
  by_cases e : k < n
  · rw [if_pos e] at h
    have := Option.some.inj h
    exact ⟨by omega, e⟩
  · rw [if_neg e] at h; cases h
theorem prangeD_ok {i j : Int} (h1 : i.natAbs < 1000000000) (h2 : j.natAbs < 1000000000) : prangeD i j = ok (rangeD i (i - j).toNat) := by
  have e : (2 : Int) ^ 62 = 4611686018427387904 := by decide
  refine grd_pos ?_ _
  rw [e]
  omega
theorem cutL_take {α : Type} (xs : List α) (m : Nat) : cutL xs none (some (m : Int)) = xs.take m := by
  unfold cutL
  rw [show HT.sIx xs.length xs.length (some (m : Int)) = min m xs.length from HT.sIx_nat xs.length xs.length m, HT.sIx_none, List.drop_zero, Nat.sub_zero]
  by_cases h : m ≤ xs.length
  · rw [Nat.min_eq_left h]
  · rw [Nat.min_eq_right (by omega), List.take_length, List.take_of_length_le (by omega)]
noncomputable def m_poly_parted (f1 : (List Int)) (g2 : (List Int)) : M ((List Int) × (List Int)) :=
  (M.bind (ok ((List.length g2 : Int) - 1)) fun degree3 => (M.bind (ok f1) fun left4 => (M.bind (ok ([] : List Int)) fun quotient5 => (M.bind (M.bind (prangeD (((List.length f1 : Int) - 1) - degree3) (-1)) fun xs => loopM (fun (s6 : (List Int) × (List Int)) at_7 => (M.bind (pget s6.1 (at_7 + degree3)) fun part8 => (M.bind (papp s6.2 part8) fun quotient9 => (M.bind (M.bind (prangeI (degree3 + 1)) fun xs => loopM (fun (left10 : (List Int)) j11 => (M.bind (M.bind (pget left10 (at_7 + j11)) fun u13 => M.bind (M.bind (pget g2 j11) fun u12 => (pmul part8 u12)) fun u15 => pset left10 (at_7 + j11) (u13 - u15)) fun left14 => ok (left14))) (s6.1) xs) fun left16 => ok (left16, quotient9))))) (left4, quotient5) xs) fun s17 => (M.bind (m_cut (List.reverse s17.2)) fun u18 => M.bind (m_cut (cutL s17.1 none (some degree3))) fun u19 => ok (u18, u19))))))
end T
set_option maxRecDepth 100000
namespace T
open PySem PySem.Spec PyProof.Rows L2
/-! ### the algebra of rows, place by place -/
theorem co_cons0 (f : List Int) : ∀ t, co (0 :: f) t = match t with | 0 => 0 | t + 1 => co f t
  | 0 => rfl
  | t + 1 => co_succ 0 f t
theorem mulP_zero_l {f : List Int} (g : List Int) : (∀ t, co f t = 0) → ∀ t, co (mulP f g) t = 0 := by
  induction f with
  | nil => intro _ t; rfl
  | cons a f ih =>
    intro h t
    have h0 : a = 0 := h 0
    have h1 : ∀ t, co f t = 0 := fun t => by rw [← co_succ a]; exact h (t + 1)
    cases t with
    | zero => rw [mulP_cons_zero, h0]; omega
    | succ t => rw [mulP_cons_succ, h0, ih h1]; omega
theorem mulP_congr_l (g : List Int) : ∀ {f f' : List Int}, (∀ t, co f t = co f' t) → ∀ t, co (mulP f g) t = co (mulP f' g) t
  | [], f', h, t => (mulP_zero_l g (fun t => (h t).symm) t).symm
  | a :: f, [], h, t => mulP_zero_l g h t
  | a :: f, b :: f', h, t => by
    have h0 : a = b := h 0
    have h1 : ∀ t, co f t = co f' t := fun t => by rw [← co_succ a, ← co_succ b]; exact h (t + 1)
    cases t with
    | zero => rw [mulP_cons_zero, mulP_cons_zero, h0]
    | succ t => rw [mulP_cons_succ, mulP_cons_succ, h0, mulP_congr_l g h1 t]
theorem mulP_congr_r {g g' : List Int} (h : ∀ t, co g t = co g' t) : ∀ (f : List Int) (t : Nat), co (mulP f g) t = co (mulP f g') t
  | [], t => rfl
  | a :: f, 0 => by rw [mulP_cons_zero, mulP_cons_zero, h]
  | a :: f, t + 1 => by rw [mulP_cons_succ, mulP_cons_succ, h, mulP_congr_r h f t]
theorem mulP_add_l (g : List Int) : ∀ (f f' : List Int) (t : Nat), co (mulP (addP f f') g) t = co (mulP f g) t + co (mulP f' g) t
  | [], f', t => by show co (mulP f' g) t = 0 + _; omega
  | a :: f, [], t => by show co (mulP (a :: f) g) t = _ + 0; omega
  | a :: f, b :: f', 0 => by
    show co (mulP ((a + b) :: addP f f') g) 0 = _
    rw [mulP_cons_zero, mulP_cons_zero, mulP_cons_zero]; grind
  | a :: f, b :: f', t + 1 => by
    show co (mulP ((a + b) :: addP f f') g) (t + 1) = _
    rw [mulP_cons_succ, mulP_cons_succ, mulP_cons_succ, mulP_add_l g f f' t]; grind
theorem mulP_add_r (g g' : List Int) : ∀ (f : List Int) (t : Nat), co (mulP f (addP g g')) t = co (mulP f g) t + co (mulP f g') t
  | [], t => rfl
  | a :: f, 0 => by rw [mulP_cons_zero, mulP_cons_zero, mulP_cons_zero, addP_co]; grind
  | a :: f, t + 1 => by rw [mulP_cons_succ, mulP_cons_succ, mulP_cons_succ, addP_co, mulP_add_r g g' f t]; grind
theorem mulP_scale_l (c : Int) (g : List Int) : ∀ (f : List Int) (t : Nat), co (mulP (scaleP c f) g) t = c * co (mulP f g) t
  | [], t => by show (0 : Int) = c * 0; omega
  | a :: f, 0 => by show co (mulP (c * a :: scaleP c f) g) 0 = _; rw [mulP_cons_zero, mulP_cons_zero]; grind
  | a :: f, t + 1 => by show co (mulP (c * a :: scaleP c f) g) (t + 1) = _; rw [mulP_cons_succ, mulP_cons_succ, mulP_scale_l c g f t]; grind
theorem mulP_shift_r (g : List Int) : ∀ (f : List Int) (t : Nat), co (mulP f (0 :: g)) t = co (0 :: mulP f g) t
  | [], t => by cases t with
    | zero => rfl
    | succ t => rw [co_succ]; rfl
  | a :: f, 0 => by rw [mulP_cons_zero, co_zero, co_zero]; omega
  | a :: f, 1 => by
    rw [mulP_cons_succ, mulP_shift_r g f 0, co_succ, co_succ, mulP_cons_zero, co_zero]; omega
  | a :: f, t + 2 => by
    rw [mulP_cons_succ, mulP_shift_r g f (t + 1), co_succ, co_succ, co_succ, mulP_cons_succ]
theorem mulP_cons_r (b : Int) (g : List Int) (f : List Int) (t : Nat) : co (mulP f (b :: g)) t = b * co f t + co (0 :: mulP f g) t := by
  have h : ∀ t, co (b :: g) t = co (addP [b] (0 :: g)) t := fun t => by
    rw [addP_co]
    cases t with
    | zero => rw [co_zero, co_zero, co_zero]; omega
    | succ t => rw [co_succ, co_succ, co_succ, co_nil]; omega
  rw [mulP_congr_r h, mulP_add_r, mulP_shift_r]
  congr 1
  have h2 : ∀ (f : List Int) (t : Nat), co (mulP f [b]) t = b * co f t := fun f => by
    induction f with
    | nil => intro t; show (0 : Int) = b * 0; omega
    | cons a f ih =>
      intro t
      cases t with
      | zero => rw [mulP_cons_zero, co_zero, co_zero]; grind
      | succ t => rw [mulP_cons_succ, ih, co_succ, co_succ, co_nil]; omega
  exact h2 f t
theorem mulP_comm : ∀ (f g : List Int) (t : Nat), co (mulP f g) t = co (mulP g f) t
  | [], g, t => (mulP_nil_r g t).symm
  | a :: f, g, t => by
    rw [mulP_cons_r]
    cases t with
    | zero => rw [mulP_cons_zero, co_zero]; omega
    | succ t => rw [mulP_cons_succ, co_succ, mulP_comm f g t]
theorem mulP_assoc (g h : List Int) : ∀ (f : List Int) (t : Nat), co (mulP (mulP f g) h) t = co (mulP f (mulP g h)) t
  | [], t => rfl
  | a :: f, t => by
    show co (mulP (addP (scaleP a g) (0 :: mulP f g)) h) t = co (addP (scaleP a (mulP g h)) (0 :: mulP f (mulP g h))) t
    rw [mulP_add_l, mulP_scale_l, addP_co, scaleP_co]
    congr 1
    cases t with
    | zero => rw [mulP_cons_zero, co_zero]; omega
    | succ t => rw [mulP_cons_succ, co_succ, mulP_assoc g h f t]; omega
/-! ### numbers modulo p -/
def Cg (p x y : Int) : Prop := ∃ k, x = y + p * k
theorem Cg.refl (p x : Int) : Cg p x x := ⟨0, by omega⟩
theorem Cg.of_eq {p x y : Int} (h : x = y) : Cg p x y := h ▸ Cg.refl p x
theorem Cg.symm {p x y : Int} : Cg p x y → Cg p y x := fun ⟨k, h⟩ => ⟨-k, by rw [h]; grind⟩
theorem Cg.trans {p x y z : Int} : Cg p x y → Cg p y z → Cg p x z := fun ⟨k, h⟩ ⟨l, g⟩ => ⟨k + l, by rw [h, g]; grind⟩
theorem Cg.add {p x y z w : Int} : Cg p x y → Cg p z w → Cg p (x + z) (y + w) := fun ⟨k, h⟩ ⟨l, g⟩ => ⟨k + l, by rw [h, g]; grind⟩
theorem Cg.sub {p x y z w : Int} : Cg p x y → Cg p z w → Cg p (x - z) (y - w) := fun ⟨k, h⟩ ⟨l, g⟩ => ⟨k - l, by rw [h, g]; grind⟩
theorem Cg.mul {p x y z w : Int} : Cg p x y → Cg p z w → Cg p (x * z) (y * w) := fun ⟨k, h⟩ ⟨l, g⟩ => ⟨k * w + y * l + p * k * l, by rw [h, g]; grind⟩
theorem Cg.neg {p x y : Int} : Cg p x y → Cg p (-x) (-y) := fun ⟨k, h⟩ => ⟨-k, by rw [h]; grind⟩
theorem Cg.mod (p x : Int) : Cg p (x % p) x := ⟨-(x / p), by have := Int.mul_ediv_add_emod x p; grind⟩
theorem Cg.iff {p x y : Int} : Cg p x y ↔ x % p = y % p := by
  constructor
  · rintro ⟨k, rfl⟩; exact Int.add_mul_emod_self_left y p k
  · intro h
    exact ((Cg.mod p x).symm.trans (Cg.of_eq h)).trans (Cg.mod p y)
theorem Cg.small {p x y : Int} (h : Cg p x y) (h0 : 0 ≤ x) (h1 : x < p) (h2 : 0 ≤ y) (h3 : y < p) : x = y := by
  have := Cg.iff.mp h
  rwa [Int.emod_eq_of_lt h0 h1, Int.emod_eq_of_lt h2 h3] at this
/-- rows, place by place -/
def CgP (p : Int) (f g : List Int) : Prop := ∀ t, Cg p (co f t) (co g t)
theorem CgP.refl (p : Int) (f : List Int) : CgP p f f := fun t => Cg.refl _ _
theorem CgP.symm {p : Int} {f g : List Int} (h : CgP p f g) : CgP p g f := fun t => (h t).symm
theorem CgP.trans {p : Int} {f g h : List Int} (a : CgP p f g) (b : CgP p g h) : CgP p f h := fun t => (a t).trans (b t)
theorem CgP.of {p : Int} {f g : List Int} (h : ∀ t, co f t = co g t) : CgP p f g := fun t => Cg.of_eq (h t)
theorem CgP.add {p : Int} {f f' g g' : List Int} (a : CgP p f f') (b : CgP p g g') : CgP p (addP f g) (addP f' g') := fun t => by rw [addP_co, addP_co]; exact (a t).add (b t)
theorem CgP.scale {p : Int} (c : Int) {f f' : List Int} (a : CgP p f f') : CgP p (scaleP c f) (scaleP c f') := fun t => by rw [scaleP_co, scaleP_co]; exact (Cg.refl p c).mul (a t)
theorem CgP.mul_r {p : Int} {g g' : List Int} (h : CgP p g g') : ∀ f : List Int, CgP p (mulP f g) (mulP f g')
  | [] => CgP.refl _ _
  | a :: f => fun t => by
    cases t with
    | zero => rw [mulP_cons_zero, mulP_cons_zero]; exact (Cg.refl _ _).mul (h 0)
    | succ t => rw [mulP_cons_succ, mulP_cons_succ]; exact ((Cg.refl _ _).mul (h _)).add (CgP.mul_r h f t)
theorem CgP.mul {p : Int} {f f' g g' : List Int} (a : CgP p f f') (b : CgP p g g') : CgP p (mulP f g) (mulP f' g') :=
  (b.mul_r f).trans ((CgP.of (mulP_comm f g')).trans ((a.mul_r g').trans (CgP.of (mulP_comm g' f'))))
/-- a row's places brought to their rests -/
def modP (p : Int) (f : List Int) : List Int := cutP (f.map (· % p))
theorem modP_co (p : Int) (f : List Int) (t : Nat) : co (modP p f) t = co f t % p := by
  unfold modP
  rw [cutP_co, co_map f (· % p) (Int.zero_emod p)]
theorem modP_cg (p : Int) (f : List Int) : CgP p (modP p f) f := fun t => by rw [modP_co]; exact Cg.mod p _
theorem modP_cut (p : Int) (f : List Int) : Cut (modP p f) := cutP_cut _
theorem modP_len (p : Int) (f : List Int) : (modP p f).length ≤ f.length := by
  have := cutP_len (f.map (· % p))
  rwa [List.length_map] at this
/-- each place from 0 on and below p -/
def Red (p : Int) (f : List Int) : Prop := ∀ t, 0 ≤ co f t ∧ co f t < p
theorem modP_red {p : Int} (hp : 0 < p) (f : List Int) : Red p (modP p f) := fun t => by
  rw [modP_co]
  exact ⟨Int.emod_nonneg _ (by omega), Int.emod_lt_of_pos _ hp⟩
theorem Red.eq {p : Int} {f g : List Int} (hf : Red p f) (hg : Red p g) (h : CgP p f g) (t : Nat) : co f t = co g t := (h t).small (hf t).1 (hf t).2 (hg t).1 (hg t).2
theorem modP_eq {p : Int} {f g : List Int} (hp : 0 < p) (hc : Cut g) (hr : Red p g) (h : CgP p f g) : modP p f = g :=
  Cut.eq (modP_cut p f) hc ((modP_red hp f).eq hr ((modP_cg p f).trans h))
theorem Red.mem {p : Int} {f : List Int} (h : Red p f) : ∀ x ∈ f, 0 ≤ x ∧ x < p := fun x hx => by
  obtain ⟨i, hi⟩ := List.getElem?_of_mem hx
  have := h i
  rwa [co_some hi] at this
theorem Red.of {p : Int} (hp : 0 < p) {f : List Int} (h : ∀ x ∈ f, 0 ≤ x ∧ x < p) : Red p f := fun t => by
  by_cases ht : t < f.length
  · exact h _ (co_mem ht)
  · rw [co_out (by omega)]; exact ⟨by omega, hp⟩
theorem Red.sm {p : Int} {f : List Int} {k : Nat} (h : Red p f) (hp : Sm k p) : ∀ x ∈ f, Sm k x := fun x hx => by
  obtain ⟨h0, h1⟩ := h.mem x hx
  exact Nat.le_trans (log2_le (by omega)) hp
/-! ### the turned number -/
noncomputable def m_turned (a1 : Int) (p2 : Int) : M Int :=
  (M.bind (pmod a1 p2) fun one3 => (M.bind (ok p2) fun two4 => (M.bind (ok 1) fun first5 => (M.bind (ok 0) fun second6 => (M.bind (whileM (fun (s7 : Int × Int × Int × Int) => (ok (decide (1 < s7.1)))) (fun (s7 : Int × Int × Int × Int) => (M.bind (pdiv s7.2.1 s7.1) fun part8 => (M.bind (M.bind (M.bind (pmul part8 s7.1) fun u10 => ok (s7.2.1 - u10)) fun u11 => ok (u11, s7.1)) fun p9 => (M.bind (M.bind (M.bind (pmul part8 s7.2.2.1) fun u13 => ok (s7.2.2.2 - u13)) fun u14 => ok (u14, s7.2.2.1)) fun p12 => ok (p9.1, p9.2, p12.1, p12.2))))) (one3, two4, first5, second6)) fun s15 => (pmod s15.2.2.1 p2))))))
end T
set_option maxRecDepth 100000
namespace T
open PySem PySem.Spec PyProof.Rows L2
/-- nothing but 1 and -1 divides both -/
def Cop (x y : Int) : Prop := ∀ d : Int, d ∣ x → d ∣ y → d ∣ 1
theorem Cop.of_gcd {x y : Int} (h : Int.gcd x y = 1) : Cop x y := fun d h1 h2 => by
  have := Int.dvd_coe_gcd h1 h2
  rw [h] at this
  exact this
theorem pow64 : (2 : Nat) ^ 64 = 18446744073709551616 := by decide
theorem turned_ok {a p : Int} (hp : 1 < p) (hs : p.natAbs < 18446744073709551616) (hc : Cop (a % p) p) : ∃ t, m_turned a p = ok t ∧ 0 ≤ t ∧ t < p ∧ Cg p (t * a) 1 := by
  have hlog : ∀ x : Int, x.natAbs ≤ p.natAbs → x.natAbs.log2 < 9000 := fun x hx => by
    have := log2_le (show x.natAbs ≤ 18446744073709551616 by omega)
    have e : (18446744073709551616 : Nat).log2 = 64 := by decide +kernel
    omega
  have h0 := Int.emod_nonneg a (show p ≠ 0 by omega)
  have h1 := Int.emod_lt_of_pos a (show 0 < p by omega)
  have h2 : a % p ≠ 0 := fun z => by
    rw [z] at hc
    have := hc p (Int.dvd_zero p) (Int.dvd_refl p)
    have := Int.eq_one_of_dvd_one (by omega) this
    omega
  unfold m_turned
  rw [pmod_pos (by omega), bind_ok, bind_okS, bind_okS, bind_okS]
  obtain ⟨⟨o, t, f, s⟩, e, ⟨q1, q2, q3, q4, q5, q6⟩, q7⟩ := whileM_inv (t := fun (s7 : Int × Int × Int × Int) => (ok (decide (1 < s7.1)))) (b := fun (s7 : Int × Int × Int × Int) => (M.bind (pdiv s7.2.1 s7.1) fun part8 => (M.bind (M.bind (M.bind (pmul part8 s7.1) fun u10 => ok (s7.2.1 - u10)) fun u11 => ok (u11, s7.1)) fun p9 => (M.bind (M.bind (M.bind (pmul part8 s7.2.2.1) fun u13 => ok (s7.2.2.2 - u13)) fun u14 => ok (u14, s7.2.2.1)) fun p12 => ok (p9.1, p9.2, p12.1, p12.2)))))
    (fun s => 1 ≤ s.1 ∧ s.1 < s.2.1 ∧ s.2.1 ≤ p ∧ Cop s.1 s.2.1 ∧ Cg p s.1 (s.2.2.1 * a) ∧ Cg p s.2.1 (s.2.2.2 * a)) (fun s => s.1.toNat) (by
      rintro ⟨o, t, f, s⟩ ⟨q1, q2, q3, q4, q5, q6⟩
      dsimp only at q1 q2 q3 q4 q5 q6 ⊢
      by_cases hc : 1 < o
      · right
        refine ⟨by rw [decide_eq_true hc], ?_⟩
        have d1 : 0 ≤ t / o := Int.ediv_nonneg (by omega) (by omega)
        have d2 : t / o ≤ t := Int.ediv_le_self o (by omega)
        have dm := Int.mul_ediv_add_emod t o
        have m0 := Int.emod_nonneg t (show o ≠ 0 by omega)
        have m1 := Int.emod_lt_of_pos t (show 0 < o by omega)
        have e1 : t - t / o * o = t % o := by rw [Int.mul_comm (t / o) o]; omega
        have c1 : Cop (t % o) o := fun d z1 z2 => q4 d z2 (by
          rw [← dm]
          exact Int.dvd_add (Int.dvd_trans z2 (Int.dvd_mul_right o _)) z1)
        have c2 : t % o ≠ 0 := fun z => by
          rw [z] at c1
          have := c1 o (Int.dvd_zero o) (Int.dvd_refl o)
          have := Int.eq_one_of_dvd_one (by omega) this
          omega
        rw [pdiv_ok (by omega) (hlog o (by omega)), Int.fdiv_eq_ediv_of_nonneg _ (by omega), bind_ok, pmul_left (by rw [pow64]; omega), bind_ok, bind_ok, bind_ok, pmul_left (by rw [pow64]; omega), bind_ok, bind_ok, bind_ok, e1]
        refine ⟨_, rfl, ⟨by dsimp only; omega, m1, by dsimp only; omega, c1, ?_, q5⟩, by dsimp only; omega⟩
        dsimp only
        rw [← e1, Int.sub_mul]
        refine q6.sub ?_
        rw [Int.mul_assoc]
        exact (Cg.refl p _).mul q5
      · exact .inl (by rw [decide_eq_false hc])) (c := (a % p, p, 1, 0)) ⟨by dsimp only; omega, h1, by dsimp only; omega, hc, by dsimp only; rw [Int.one_mul]; exact Cg.mod p a, ⟨1, by dsimp only; omega⟩⟩
  dsimp only at q1 q5 q7
  rw [e, bind_ok]
  dsimp only
  rw [pmod_pos (by omega)]
  refine ⟨_, rfl, Int.emod_nonneg _ (by omega), Int.emod_lt_of_pos _ (by omega), ?_⟩
  have ho : o = 1 := by
    by_cases hc : 1 < o
    · rw [decide_eq_true hc] at q7; cases q7
    · omega
  rw [ho] at q5
  exact ((Cg.mod p f).mul (Cg.refl p a)).trans q5.symm
/-! ### rows modulo p, the program's -/
noncomputable def m_mod_poly (row1 : (List Int)) (p2 : Int) : M (List Int) :=
  (M.bind (mapC (fun place3 => (pmod place3 p2)) row1) fun u4 => (m_cut u4))
theorem mod_poly_ok {f : List Int} {p : Int} (hp : 0 < p) (hl : f.length ≤ 16777216) : m_mod_poly f p = ok (modP p f) := by
  unfold m_mod_poly
  rw [mapC_ok (g := fun x => x % p) (fun x _ => pmod_pos hp) (by rw [sizeLineE]; exact hl), bind_ok, cut_ok]
  rfl
/-- places of a row set, one by one -/
theorem setInto {N i n : Nat} {step : List Int → Int → M (List Int)} {h : Nat → Int → Int} {L : List Int} (hL : L.length = N) (hi : i + n ≤ N)
    (hs : ∀ (c : List Int) (j : Nat), c.length = N → j < n → step c (j : Int) = ok (c.set (i + j) (h j (co c (i + j))))) :
    ∃ L', loopM step L (rangeL 0 n) = ok L' ∧ L'.length = N ∧ ∀ t, co L' t = if i ≤ t ∧ t < i + n then h (t - i) (co L t) else co L t := by
  obtain ⟨c, e, h1, h2⟩ := loopM_inv (f := step) (fun j (c : List Int) => c.length = N ∧ ∀ t, co c t = if i ≤ t ∧ t < i + j then h (t - i) (co L t) else co L t) (xs := rangeL 0 n) (c := L)
    ⟨hL, fun t => by rw [if_neg (by omega)]⟩ (fun j c x hx ⟨h1, h2⟩ => by
      obtain ⟨rfl, hj⟩ := range_get hx
      refine ⟨_, hs c j h1 hj, by rw [List.length_set]; exact h1, fun t => ?_⟩
      rw [co_set (by omega)]
      by_cases e : t = i + j
      · subst e
        rw [if_pos rfl, h2, if_neg (by omega), if_pos (by omega), show i + j - i = j by omega]
      · rw [if_neg e, h2]
        have : (i ≤ t ∧ t < i + j) ↔ (i ≤ t ∧ t < i + (j + 1)) := by omega
        simp only [this])
  rw [rangeL_len] at h2
  exact ⟨c, e, h1, h2⟩
theorem co_lead (m : Nat) (x : Int) (xs : List Int) (t : Nat) : co (List.replicate m 0 ++ x :: xs) t = co (addP (List.replicate m 0 ++ [x]) (List.replicate (m + 1) 0 ++ xs)) t := by
  rw [addP_co]
  have l : (List.replicate m (0 : Int)).length = m := List.length_replicate
  have l1 : (List.replicate (m + 1) (0 : Int)).length = m + 1 := List.length_replicate
  by_cases h : t < m
  · rw [co_append_l (by omega), co_append_l (by omega), co_append_l (by omega), co_rep0, co_rep0]; rfl
  · rw [co_append_r (by omega), co_append_r (by omega), l]
    by_cases e : t = m
    · subst e
      rw [Nat.sub_self, co_zero, co_zero, co_append_l (by omega), co_rep0]; omega
    · rw [co_append_r (by omega), l1]
      obtain ⟨k, hk⟩ : ∃ k, t - m = k + 1 := ⟨t - m - 1, by omega⟩
      rw [hk, co_succ, co_succ, co_nil, show t - (m + 1) = k by omega]; omega
theorem mulP_lead (m : Nat) (x : Int) (G : List Int) (t : Nat) : co (mulP (List.replicate m 0 ++ [x]) G) t = if m ≤ t then x * co G (t - m) else 0 := by
  rw [mulP_snoc, List.length_replicate, mulP_zero_l G (fun t => co_rep0 m t)]
  omega
noncomputable def m_mod_parted (a1 : (List Int)) (b2 : (List Int)) (p3 : Int) : M ((List Int) × (List Int)) :=
  (M.bind (m_mod_poly a1 p3) fun left4 => (M.bind (m_mod_poly b2 p3) fun by_5 => (M.bind (ok ((List.length by_5 : Int) - 1)) fun degree6 => (M.bind (M.bind (pget by_5 degree6) fun u8 => (m_turned u8 p3)) fun back7 => (M.bind (ok ([] : List Int)) fun quotient9 => (M.bind (M.bind (prangeD (((List.length left4 : Int) - 1) - degree6) (-1)) fun xs => loopM (fun (s10 : (List Int) × (List Int)) at_11 => (M.bind (M.bind (M.bind (pget s10.1 (at_11 + degree6)) fun u13 => (pmul u13 back7)) fun u14 => (pmod u14 p3)) fun part12 => (M.bind (papp s10.2 part12) fun quotient15 => (M.bind (M.bind (prangeI (degree6 + 1)) fun xs => loopM (fun (left16 : (List Int)) j17 => (M.bind (M.bind (M.bind (M.bind (pget left16 (at_11 + j17)) fun u19 => M.bind (M.bind (pget by_5 j17) fun u18 => (pmul part12 u18)) fun u20 => ok (u19 - u20)) fun u21 => (pmod u21 p3)) fun u23 => (pset left16 (at_11 + j17) u23)) fun left22 => ok (left22))) (s10.1) xs) fun left24 => ok (left24, quotient15))))) (left4, quotient9) xs) fun s25 => (M.bind (m_cut (List.reverse s25.2)) fun u26 => M.bind (m_cut (cutL s25.1 none (some degree6))) fun u27 => ok (u26, u27))))))))
theorem rangeD_atN {n d l k : Nat} {x : Int} (hn : n = l - d) (h : (rangeD ((l : Int) - 1 - (d : Int)) n)[k]? = some x) : x = ((n - 1 - k : Nat) : Int) ∧ k < n := by
  rw [rangeD_get] at h
  by_cases e : k < n
  · rw [if_pos e] at h
    have := Option.some.inj h
    exact ⟨by omega, e⟩
  · rw [if_neg e] at h; cases h
/-- division modulo p -/
theorem mod_parted_ok {f g G : List Int} {p : Int} {d : Nat} (hp : 1 < p) (hs : p.natAbs < 18446744073709551616) (hG : modP p g = G) (hd : G.length = d + 1) (hc : Cop (co G d % p) p) (hf : f.length ≤ 100000) (hg : g.length ≤ 100000) :
    ∃ Q R, m_mod_parted f g p = ok (Q, R) ∧ Cut Q ∧ Cut R ∧ Red p Q ∧ Red p R ∧ R.length ≤ d ∧ Q.length ≤ f.length ∧ CgP p f (addP (mulP Q G) R) := by
  have hp0 : 0 < p := by omega
  have gl : G.length ≤ g.length := hG ▸ modP_len p g
  have rG : Red p G := hG ▸ modP_red hp0 g
  have sp : Sm 64 p := Nat.le_trans (log2_le (show p.natAbs ≤ 18446744073709551616 by omega)) (by decide +kernel)
  obtain ⟨b, eb, b0, b1, bc⟩ := turned_ok hp hs hc
  unfold m_mod_parted
  generalize hF : modP p f = F
  have fl : F.length ≤ f.length := hF ▸ modP_len p f
  have rF : Red p F := hF ▸ modP_red hp0 f
  have cF : CgP p F f := hF ▸ modP_cg p f
  rw [mod_poly_ok hp0 (by omega), bind_ok, mod_poly_ok hp0 (by omega), bind_ok, hF, hG, bind_okS, show (G.length : Int) - 1 = (d : Int) by omega, pget_co (by omega), bind_ok, eb, bind_ok, bind_okS]
  simp only [show (d : Int) + 1 = ((d + 1 : Nat) : Int) by omega, prangeI_nat (show d + 1 < 2 ^ 62 by omega), bind_okS, bind_ret]
  rw [prangeD_ok (by omega) (by omega), bind_ok]
  obtain ⟨n, hn⟩ : ∃ n, n = F.length - d := ⟨_, rfl⟩
  rw [show ((F.length : Int) - 1 - d - -1).toNat = n by omega]
  have sb : Sm 64 b := Nat.le_trans (log2_le (by omega)) sp
  obtain ⟨⟨c1, c2⟩, e, l1, l2, l3, l4, l5, l6⟩ := loopM_inv (f := fun (s10 : (List Int) × (List Int)) at_11 => (M.bind (M.bind (M.bind (pget s10.1 (at_11 + (d : Int))) fun u13 => (pmul u13 b)) fun u14 => (pmod u14 p)) fun part12 => (M.bind (papp s10.2 part12) fun quotient15 => (M.bind (loopM (fun (left16 : (List Int)) j17 => (M.bind (M.bind (M.bind (pget left16 (at_11 + j17)) fun u19 => M.bind (M.bind (pget G j17) fun u18 => (pmul part12 u18)) fun u20 => ok (u19 - u20)) fun u21 => (pmod u21 p)) fun u23 => (pset left16 (at_11 + j17) u23))) (s10.1) (rangeL 0 (d + 1))) fun left24 => ok (left24, quotient15)))))
    (fun k (c : List Int × List Int) => c.1.length = F.length ∧ c.2.length = k ∧ Red p c.1 ∧ (∀ x ∈ c.2, 0 ≤ x ∧ x < p) ∧ (∀ t, n - k + d ≤ t → co c.1 t = 0) ∧ CgP p F (addP c.1 (mulP (List.replicate (n - k) 0 ++ c.2.reverse) G))) (xs := rangeD ((F.length : Int) - 1 - (d : Int)) n) (c := (F, []))
    ⟨rfl, rfl, rF, fun x hx => (nomatch hx), fun t ht => co_out (by dsimp only; omega), fun t => by
      rw [addP_co, mulP_zero_l G (fun t => by rw [List.reverse_nil, List.append_nil]; exact co_rep0 _ t)]
      exact Cg.of_eq (by dsimp only; omega)⟩ (by
    rintro k ⟨c1, c2⟩ x hx ⟨h1, h2, h3, h4, h5, h6⟩
    dsimp only at h1 h2 h3 h4 h5 h6
    obtain ⟨rfl, hk⟩ := rangeD_atN hn hx
    generalize hat : n - 1 - k = a
    have hnk : n - k = a + 1 := by omega
    rw [hnk] at h5 h6
    dsimp only
    rw [show (a : Int) + (d : Int) = ((a + d : Nat) : Int) by omega, pget_co (by omega), bind_ok, mul_sm (j := 64) (k := 64) (Nat.le_trans (log2_le (by have := h3 (a + d); omega)) sp) sb (by omega), bind_ok, pmod_pos hp0, bind_ok]
    generalize hpt : co c1 (a + d) * b % p = pt
    have p0 : 0 ≤ pt := hpt ▸ Int.emod_nonneg _ (by omega)
    have p1 : pt < p := hpt ▸ Int.emod_lt_of_pos _ hp0
    have spt : Sm 64 pt := Nat.le_trans (log2_le (by omega)) sp
    rw [papp_ok (by omega), bind_ok]
    obtain ⟨L', e', l', k'⟩ := setInto (N := F.length) (i := a) (n := d + 1) (L := c1) (h := fun j x => (x - pt * co G j) % p) (step := fun (left16 : (List Int)) j17 => (M.bind (M.bind (M.bind (pget left16 ((a : Int) + j17)) fun u19 => M.bind (M.bind (pget G j17) fun u18 => (pmul pt u18)) fun u20 => ok (u19 - u20)) fun u21 => (pmod u21 p)) fun u23 => (pset left16 ((a : Int) + j17) u23))) h1 (by omega) (fun c j hc hj => by
      rw [show (a : Int) + (j : Int) = ((a + j : Nat) : Int) by omega, pget_co (by omega), bind_ok, pget_co (by omega), bind_ok, mul_sm (j := 64) (k := 64) spt (rG.sm sp _ (co_mem (by omega))) (by omega), bind_ok, bind_ok, pmod_pos hp0, bind_ok, pset_nat (by omega)])
    rw [e', bind_ok]
    have hcg : ∀ t, Cg p (co L' t) (co c1 t - if a ≤ t then pt * co G (t - a) else 0) := fun t => by
      rw [k']
      by_cases ht : a ≤ t
      · rw [if_pos ht]
        by_cases ht2 : t < a + (d + 1)
        · rw [if_pos ⟨ht, ht2⟩]; exact Cg.mod p _
        · rw [if_neg (by omega), co_out (xs := G) (by omega)]; exact Cg.of_eq (by omega)
      · rw [if_neg ht, if_neg (by omega)]; exact Cg.of_eq (by omega)
    have rL : Red p L' := fun t => by
      rw [k']
      split
      · exact ⟨Int.emod_nonneg _ (by omega), Int.emod_lt_of_pos _ hp0⟩
      · exact h3 t
    refine ⟨_, rfl, l', by rw [List.length_append, h2]; rfl, rL, fun x hx => ?_, fun t ht => ?_, fun t => ?_⟩
    · rcases List.mem_append.mp hx with q | q
      · exact h4 x q
      · have : x = pt := by simpa using q
        subst this; exact ⟨p0, p1⟩
    · dsimp only
      have ht : a + d ≤ t := by omega
      by_cases e : t = a + d
      · subst e
        have z1 := hcg (a + d)
        rw [if_pos (by omega), show a + d - a = d by omega] at z1
        have z2 : Cg p (pt * co G d) (co c1 (a + d)) := by
          rw [← hpt]
          refine ((Cg.mod p _).mul (Cg.refl p _)).trans ?_
          rw [Int.mul_assoc]
          refine ((Cg.refl p _).mul bc).trans (Cg.of_eq (by omega))
        have z3 : Cg p (co L' (a + d)) 0 := z1.trans (((Cg.refl p _).sub z2).trans (Cg.of_eq (by omega)))
        exact z3.small (rL _).1 (rL _).2 (by omega) hp0
      · rw [k', if_neg (by omega)]; exact h5 t (by omega)
    · dsimp only
      refine (h6 t).trans ?_
      rw [addP_co, addP_co, show n - (k + 1) = a by omega, List.reverse_append, List.reverse_singleton, List.singleton_append, mulP_congr_l G (co_lead a pt c2.reverse), mulP_add_l, mulP_lead]
      obtain ⟨z, hz⟩ := hcg t
      exact ⟨-z, by rw [hz]; grind⟩)
  rw [rangeD_len] at l2 l5 l6
  dsimp only at l1 l2 l3 l4 l5 l6
  simp only [Nat.sub_self, List.replicate_zero, List.nil_append, Nat.zero_add] at l5 l6
  rw [e, bind_ok]
  dsimp only
  rw [cut_ok, bind_ok, cutL_take, cut_ok, bind_ok]
  have hR : ∀ t, co (cutP (c1.take d)) t = co c1 t := fun t => by
    rw [cutP_co, co_take]
    split
    · rfl
    · exact (l5 t (by omega)).symm
  refine ⟨_, _, rfl, cutP_cut _, cutP_cut _, ?_, fun t => by rw [hR]; exact l3 t, (cutP_cut _).len_le fun t ht => by rw [hR]; exact l5 t ht, ?_, ?_⟩
  · exact Red.of hp0 fun x hx => l4 x (List.mem_reverse.mp (cutP_mem hx))
  · have := cutP_len c2.reverse
    rw [List.length_reverse] at this; omega
  · refine cF.symm.trans (l6.trans (CgP.of fun t => ?_))
    rw [addP_co, addP_co, hR, mulP_congr_l G (cutP_co c2.reverse)]
    omega
end T
set_option maxRecDepth 100000
namespace T
open PySem PySem.Spec PyProof.Rows L2
/-! ### the laws' helpers modulo a prime -/
def primesL : List Int := [2, 3, 5, 7, 11, 13, 17, 19, 23, 29, 31, 37, 41, 43, 47, 53, 59, 61, 67, 71, 73, 79, 83, 89, 97, 101, 103, 107, 109, 113, 127, 131, 137, 139, 149, 151, 157, 163, 167, 173, 179, 181, 191, 193, 197, 199]
theorem primes_fact : ∀ p ∈ primesL, 1 < p ∧ p < 200 ∧ (List.range p.natAbs).all (fun a => a == 0 || Nat.gcd a p.natAbs == 1) = true := by decide +kernel
def IsP (p : Int) : Prop := 1 < p ∧ p < 200 ∧ ∀ a : Int, a % p ≠ 0 → Cop (a % p) p
theorem isP_of {p : Int} (h : p ∈ primesL) : IsP p := by
  obtain ⟨h1, h2, h3⟩ := primes_fact p h
  refine ⟨h1, h2, fun a ha => Cop.of_gcd ?_⟩
  have m0 := Int.emod_nonneg a (show p ≠ 0 by omega)
  have m1 := Int.emod_lt_of_pos a (show 0 < p by omega)
  have h4 := List.all_eq_true.mp h3 (a % p).natAbs (List.mem_range.mpr (by omega))
  rw [Bool.or_eq_true] at h4
  rcases h4 with z | z
  · have : (a % p).natAbs = 0 := eq_of_beq z
    omega
  · exact eq_of_beq z
end T
set_option maxRecDepth 100000
namespace T
open PySem PySem.Spec PyProof.Rows L2
/-! ### what divides a row modulo p -/
def Dv (p : Int) (C F : List Int) : Prop := ∃ Q, CgP p F (mulP Q C)
section
variable {p : Int} {C F F' G H : List Int}
theorem Dv.congr (h : CgP p F F') : Dv p C F → Dv p C F' := fun ⟨Q, q⟩ => ⟨Q, h.symm.trans q⟩
theorem Dv.add : Dv p C F → Dv p C G → Dv p C (addP F G) := fun ⟨Q, q⟩ ⟨R, r⟩ => ⟨addP Q R, fun t => by rw [addP_co, mulP_add_l]; exact (q t).add (r t)⟩
theorem Dv.mul (Q : List Int) : Dv p C F → Dv p C (mulP Q F) := fun ⟨R, r⟩ => ⟨mulP Q R, (CgP.mul_r r Q).trans (CgP.of fun t => (mulP_assoc R C Q t).symm)⟩
theorem Dv.sub : Dv p C F → Dv p C G → Dv p C (subP F G) := fun h ⟨R, r⟩ => h.add ⟨scaleP (-1) R, fun t => by rw [mulP_scale_l, scaleP_co]; exact (Cg.refl p _).mul (r t)⟩
theorem Dv.zero (C : List Int) (h : ∀ t, Cg p (co F t) 0) : Dv p C F := ⟨[], fun t => h t⟩
theorem Dv.trans : Dv p C F → Dv p F G → Dv p C G := fun h ⟨Q, q⟩ => (h.mul Q).congr q.symm
theorem Dv.nil (h : Dv p [] F) : ∀ t, Cg p (co F t) 0 := by
  obtain ⟨Q, q⟩ := h
  intro t
  have := q t
  rwa [mulP_nil_r] at this
end
end T
set_option maxRecDepth 100000
namespace T
open PySem PySem.Spec PyProof.Rows L2
/-! ### the determinant by the program -/
noncomputable def m_det_L : Nat → (List (List Int)) →  M Int
  | 0, _ => stuck
  | n + 1, table1 =>
  (M.bind (ok (decide ((List.length table1 : Int) = 1))) fun z2 => if z2 = true then (M.bind (pget table1 0) fun u3 => (pget u3 0)) else (M.bind (ok 0) fun total4 => (M.bind (M.bind (prangeI (List.length table1 : Int)) fun xs => loopM (fun (total5 : Int) i6 => (M.bind (M.bind (M.bind (pget table1 i6) fun u7 => (pget u7 0)) fun u8 => ok ((!decide (u8 = 0)))) fun z9 => if z9 = true then (M.bind (M.bind (pcat (cutL table1 none (some i6)) (cutL table1 (some (i6 + 1)) none)) fun xs => mapC (fun row11 => (ok (cutL row11 (some 1) none))) xs) fun lower10 => (M.bind (M.bind (M.bind (pget table1 i6) fun u13 => (pget u13 0)) fun u14 => M.bind (m_det_L n lower10) fun u15 => (pmul u14 u15)) fun part12 => (M.bind (M.bind (ok (decide ((i6 % 2) = 1))) fun z16 => if z16 = true then (M.bind (ok (-part12)) fun part17 => ok (part17)) else ok (part12)) fun part18 => (M.bind (ok (total5 + part18)) fun total19 => ok (total19))))) else ok (total5))) (total4) xs) fun total20 => (ok total20))))
noncomputable def m_det (table1 : (List (List Int))) : M Int :=
  (M.bind (ok (decide ((List.length table1 : Int) = 1))) fun z2 => if z2 = true then (M.bind (pget table1 0) fun u3 => (pget u3 0)) else (M.bind (ok 0) fun total4 => (M.bind (M.bind (prangeI (List.length table1 : Int)) fun xs => loopM (fun (total5 : Int) i6 => (M.bind (M.bind (M.bind (pget table1 i6) fun u7 => (pget u7 0)) fun u8 => ok ((!decide (u8 = 0)))) fun z9 => if z9 = true then (M.bind (M.bind (pcat (cutL table1 none (some i6)) (cutL table1 (some (i6 + 1)) none)) fun xs => mapC (fun row11 => (ok (cutL row11 (some 1) none))) xs) fun lower10 => (M.bind (M.bind (M.bind (pget table1 i6) fun u13 => (pget u13 0)) fun u14 => M.bind (m_det_L 5 lower10) fun u15 => (pmul u14 u15)) fun part12 => (M.bind (M.bind (ok (decide ((i6 % 2) = 1))) fun z16 => if z16 = true then (M.bind (ok (-part12)) fun part17 => ok (part17)) else ok (part12)) fun part18 => (M.bind (ok (total5 + part18)) fun total19 => ok (total19))))) else ok (total5))) (total4) xs) fun total20 => (ok total20))))
noncomputable def m_lower (table1 : List (List Int)) (i6 : Int) : M (List (List Int)) := (M.bind (pcat (cutL table1 none (some i6)) (cutL table1 (some (i6 + 1)) none)) fun xs => mapC (fun row11 => (ok (cutL row11 (some 1) none))) xs)
noncomputable def m_dbody (n : Nat) (table1 : List (List Int)) (total5 i6 : Int) : M Int :=
  (M.bind (M.bind (M.bind (pget table1 i6) fun u7 => (pget u7 0)) fun u8 => ok ((!decide (u8 = 0)))) fun z9 => if z9 = true then (M.bind (m_lower table1 i6) fun lower10 => (M.bind (M.bind (M.bind (pget table1 i6) fun u13 => (pget u13 0)) fun u14 => M.bind (m_det_L n lower10) fun u15 => (pmul u14 u15)) fun part12 => (M.bind (M.bind (ok (decide ((i6 % 2) = 1))) fun z16 => if z16 = true then (M.bind (ok (-part12)) fun part17 => ok (part17)) else ok (part12)) fun part18 => (M.bind (ok (total5 + part18)) fun total19 => ok (total19))))) else ok (total5))
theorem detL_one (n : Nat) (a : Int) : m_det_L (n + 1) [[a]] = ok a := by
  rw [m_det_L]
  simp only [bind_okS]
  rw [if_pos (by simp)]
  rfl
theorem detL_eq (n : Nat) (r1 r2 : List Int) (rs : List (List Int)) (hl : rs.length ≤ 1000) : m_det_L (n + 1) (r1 :: r2 :: rs) = loopM (m_dbody n (r1 :: r2 :: rs)) 0 (rangeL 0 (rs.length + 2)) := by
  rw [m_det_L]
  simp only [bind_okS, bind_ret]
  rw [if_neg (by rw [List.length_cons, List.length_cons, decide_eq_true_eq]; omega), List.length_cons, List.length_cons, prangeI_nat (by omega), bind_ok]
  rfl
theorem det_eq (r1 r2 : List Int) (rs : List (List Int)) (hl : rs.length ≤ 1000) : m_det (r1 :: r2 :: rs) = loopM (m_dbody 5 (r1 :: r2 :: rs)) 0 (rangeL 0 (rs.length + 2)) := by
  unfold m_det
  simp only [bind_okS, bind_ret]
  rw [if_neg (by rw [List.length_cons, List.length_cons, decide_eq_true_eq]; omega), List.length_cons, List.length_cons, prangeI_nat (by omega), bind_ok]
  rfl
theorem dstep {n : Nat} {table lower : List (List Int)} {i x D : Int} (T : Int) (hx : (M.bind (pget table i) fun u => pget u 0) = ok x) (hl : m_lower table i = ok lower) (hd : m_det_L n lower = ok D) (hp : pmul x D = ok (x * D)) :
    m_dbody n table T i = ok (T + (if i % 2 = 1 then -(x * D) else x * D)) := by
  unfold m_dbody
  rw [hx, bind_ok, bind_ok]
  by_cases h0 : x = 0
  · subst h0
    rw [if_neg (by simp), Int.zero_mul]
    congr 1
    split <;> omega
  · rw [if_pos (by simpa using h0), hl, bind_ok, bind_ok, hd, bind_ok, hp, bind_ok, bind_ok]
    by_cases h1 : i % 2 = 1
    · rw [if_pos (decide_eq_true h1), if_pos h1]; rfl
    · rw [if_neg (by simpa using h1), if_neg h1]; rfl
theorem sz2 {a b c d : Int} (ha : Sm 1000 a) (hb : Sm 1000 b) (hc : Sm 1000 c) (hd : Sm 1000 d) : Sm 2003 (((0 + a * (d)) + -(c * (b)))) := by
  have z : Sm 0 0 := by unfold Sm; decide
  have p0 := Sm.mul ha hd
  have q0 := Sm.add z p0
  have p1 := Sm.mul hc hb
  have q1 := Sm.add q0 p1.neg
  exact q1.mono (by decide)
theorem detL2 (k : Nat) {a b c d : Int} (ha : Sm 1000 a) (hb : Sm 1000 b) (hc : Sm 1000 c) (hd : Sm 1000 d) : m_det_L (k + 2) [[a, b], [c, d]] = ok ((0 + a * (d)) + -(c * (b))) := by
  rw [detL_eq (k + 1) _ _ _ (by simp)]
  show loopM _ 0 [0, 1] = _
  have e0 : ∀ T : Int, m_dbody (k + 1) [[a, b], [c, d]] T 0 = ok (T + a * (d)) := fun T => dstep T (lower := [[d]]) rfl (by kernel_rfl) (detL_one k d) (mul_sm ha hd (by decide))
  have e1 : ∀ T : Int, m_dbody (k + 1) [[a, b], [c, d]] T 1 = ok (T + -(c * (b))) := fun T => dstep T (lower := [[b]]) rfl (by kernel_rfl) (detL_one k b) (mul_sm hc hb (by decide))
  simp only [loopM_cons, loopM_nil, bind_okS, e0, e1]
theorem detD2 {a b c d : Int} (ha : Sm 1000 a) (hb : Sm 1000 b) (hc : Sm 1000 c) (hd : Sm 1000 d) : m_det [[a, b], [c, d]] = ok ((0 + a * (d)) + -(c * (b))) := by
  rw [det_eq _ _ _ (by simp)]
  show loopM _ 0 [0, 1] = _
  have e0 : ∀ T : Int, m_dbody (5) [[a, b], [c, d]] T 0 = ok (T + a * (d)) := fun T => dstep T (lower := [[d]]) rfl (by kernel_rfl) (detL_one 4 d) (mul_sm ha hd (by decide))
  have e1 : ∀ T : Int, m_dbody (5) [[a, b], [c, d]] T 1 = ok (T + -(c * (b))) := fun T => dstep T (lower := [[b]]) rfl (by kernel_rfl) (detL_one 4 b) (mul_sm hc hb (by decide))
  simp only [loopM_cons, loopM_nil, bind_okS, e0, e1]
theorem sz3 {a b c d e f g h i : Int} (ha : Sm 1000 a) (hb : Sm 1000 b) (hc : Sm 1000 c) (hd : Sm 1000 d) (he : Sm 1000 e) (hf : Sm 1000 f) (hg : Sm 1000 g) (hh : Sm 1000 h) (hi : Sm 1000 i) : Sm 3007 ((((0 + a * (((0 + e * (i)) + -(h * (f))))) + -(d * (((0 + b * (i)) + -(h * (c)))))) + g * (((0 + b * (f)) + -(e * (c)))))) := by
  have z : Sm 0 0 := by unfold Sm; decide
  have p0 := Sm.mul ha (sz2 he hf hh hi)
  have q0 := Sm.add z p0
  have p1 := Sm.mul hd (sz2 hb hc hh hi)
  have q1 := Sm.add q0 p1.neg
  have p2 := Sm.mul hg (sz2 hb hc he hf)
  have q2 := Sm.add q1 p2
  exact q2.mono (by decide)
theorem detL3 (k : Nat) {a b c d e f g h i : Int} (ha : Sm 1000 a) (hb : Sm 1000 b) (hc : Sm 1000 c) (hd : Sm 1000 d) (he : Sm 1000 e) (hf : Sm 1000 f) (hg : Sm 1000 g) (hh : Sm 1000 h) (hi : Sm 1000 i) : m_det_L (k + 3) [[a, b, c], [d, e, f], [g, h, i]] = ok (((0 + a * (((0 + e * (i)) + -(h * (f))))) + -(d * (((0 + b * (i)) + -(h * (c)))))) + g * (((0 + b * (f)) + -(e * (c))))) := by
  rw [detL_eq (k + 2) _ _ _ (by simp)]
  show loopM _ 0 [0, 1, 2] = _
  have e0 : ∀ T : Int, m_dbody (k + 2) [[a, b, c], [d, e, f], [g, h, i]] T 0 = ok (T + a * (((0 + e * (i)) + -(h * (f))))) := fun T => dstep T (lower := [[e, f], [h, i]]) rfl (by kernel_rfl) (detL2 k he hf hh hi) (mul_sm ha (sz2 he hf hh hi) (by decide))
  have e1 : ∀ T : Int, m_dbody (k + 2) [[a, b, c], [d, e, f], [g, h, i]] T 1 = ok (T + -(d * (((0 + b * (i)) + -(h * (c)))))) := fun T => dstep T (lower := [[b, c], [h, i]]) rfl (by kernel_rfl) (detL2 k hb hc hh hi) (mul_sm hd (sz2 hb hc hh hi) (by decide))
  have e2 : ∀ T : Int, m_dbody (k + 2) [[a, b, c], [d, e, f], [g, h, i]] T 2 = ok (T + g * (((0 + b * (f)) + -(e * (c))))) := fun T => dstep T (lower := [[b, c], [e, f]]) rfl (by kernel_rfl) (detL2 k hb hc he hf) (mul_sm hg (sz2 hb hc he hf) (by decide))
  simp only [loopM_cons, loopM_nil, bind_okS, e0, e1, e2]
theorem detD3 {a b c d e f g h i : Int} (ha : Sm 1000 a) (hb : Sm 1000 b) (hc : Sm 1000 c) (hd : Sm 1000 d) (he : Sm 1000 e) (hf : Sm 1000 f) (hg : Sm 1000 g) (hh : Sm 1000 h) (hi : Sm 1000 i) : m_det [[a, b, c], [d, e, f], [g, h, i]] = ok (((0 + a * (((0 + e * (i)) + -(h * (f))))) + -(d * (((0 + b * (i)) + -(h * (c)))))) + g * (((0 + b * (f)) + -(e * (c))))) := by
  rw [det_eq _ _ _ (by simp)]
  show loopM _ 0 [0, 1, 2] = _
  have e0 : ∀ T : Int, m_dbody (5) [[a, b, c], [d, e, f], [g, h, i]] T 0 = ok (T + a * (((0 + e * (i)) + -(h * (f))))) := fun T => dstep T (lower := [[e, f], [h, i]]) rfl (by kernel_rfl) (detL2 3 he hf hh hi) (mul_sm ha (sz2 he hf hh hi) (by decide))
  have e1 : ∀ T : Int, m_dbody (5) [[a, b, c], [d, e, f], [g, h, i]] T 1 = ok (T + -(d * (((0 + b * (i)) + -(h * (c)))))) := fun T => dstep T (lower := [[b, c], [h, i]]) rfl (by kernel_rfl) (detL2 3 hb hc hh hi) (mul_sm hd (sz2 hb hc hh hi) (by decide))
  have e2 : ∀ T : Int, m_dbody (5) [[a, b, c], [d, e, f], [g, h, i]] T 2 = ok (T + g * (((0 + b * (f)) + -(e * (c))))) := fun T => dstep T (lower := [[b, c], [e, f]]) rfl (by kernel_rfl) (detL2 3 hb hc he hf) (mul_sm hg (sz2 hb hc he hf) (by decide))
  simp only [loopM_cons, loopM_nil, bind_okS, e0, e1, e2]
theorem detD4 {a b c d e f g h i j k l m n o p : Int} (ha : Sm 1000 a) (hb : Sm 1000 b) (hc : Sm 1000 c) (hd : Sm 1000 d) (he : Sm 1000 e) (hf : Sm 1000 f) (hg : Sm 1000 g) (hh : Sm 1000 h) (hi : Sm 1000 i) (hj : Sm 1000 j) (hk : Sm 1000 k) (hl : Sm 1000 l) (hm : Sm 1000 m) (hn : Sm 1000 n) (ho : Sm 1000 o) (hp : Sm 1000 p) : m_det [[a, b, c, d], [e, f, g, h], [i, j, k, l], [m, n, o, p]] = ok ((((0 + a * ((((0 + f * (((0 + k * (p)) + -(o * (l))))) + -(j * (((0 + g * (p)) + -(o * (h)))))) + n * (((0 + g * (l)) + -(k * (h))))))) + -(e * ((((0 + b * (((0 + k * (p)) + -(o * (l))))) + -(j * (((0 + c * (p)) + -(o * (d)))))) + n * (((0 + c * (l)) + -(k * (d)))))))) + i * ((((0 + b * (((0 + g * (p)) + -(o * (h))))) + -(f * (((0 + c * (p)) + -(o * (d)))))) + n * (((0 + c * (h)) + -(g * (d))))))) + -(m * ((((0 + b * (((0 + g * (l)) + -(k * (h))))) + -(f * (((0 + c * (l)) + -(k * (d)))))) + j * (((0 + c * (h)) + -(g * (d)))))))) := by
  rw [det_eq _ _ _ (by simp)]
  show loopM _ 0 [0, 1, 2, 3] = _
  have e0 : ∀ T : Int, m_dbody (5) [[a, b, c, d], [e, f, g, h], [i, j, k, l], [m, n, o, p]] T 0 = ok (T + a * ((((0 + f * (((0 + k * (p)) + -(o * (l))))) + -(j * (((0 + g * (p)) + -(o * (h)))))) + n * (((0 + g * (l)) + -(k * (h))))))) := fun T => dstep T (lower := [[f, g, h], [j, k, l], [n, o, p]]) rfl (by kernel_rfl) (detL3 2 hf hg hh hj hk hl hn ho hp) (mul_sm ha (sz3 hf hg hh hj hk hl hn ho hp) (by decide))
  have e1 : ∀ T : Int, m_dbody (5) [[a, b, c, d], [e, f, g, h], [i, j, k, l], [m, n, o, p]] T 1 = ok (T + -(e * ((((0 + b * (((0 + k * (p)) + -(o * (l))))) + -(j * (((0 + c * (p)) + -(o * (d)))))) + n * (((0 + c * (l)) + -(k * (d)))))))) := fun T => dstep T (lower := [[b, c, d], [j, k, l], [n, o, p]]) rfl (by kernel_rfl) (detL3 2 hb hc hd hj hk hl hn ho hp) (mul_sm he (sz3 hb hc hd hj hk hl hn ho hp) (by decide))
  have e2 : ∀ T : Int, m_dbody (5) [[a, b, c, d], [e, f, g, h], [i, j, k, l], [m, n, o, p]] T 2 = ok (T + i * ((((0 + b * (((0 + g * (p)) + -(o * (h))))) + -(f * (((0 + c * (p)) + -(o * (d)))))) + n * (((0 + c * (h)) + -(g * (d))))))) := fun T => dstep T (lower := [[b, c, d], [f, g, h], [n, o, p]]) rfl (by kernel_rfl) (detL3 2 hb hc hd hf hg hh hn ho hp) (mul_sm hi (sz3 hb hc hd hf hg hh hn ho hp) (by decide))
  have e3 : ∀ T : Int, m_dbody (5) [[a, b, c, d], [e, f, g, h], [i, j, k, l], [m, n, o, p]] T 3 = ok (T + -(m * ((((0 + b * (((0 + g * (l)) + -(k * (h))))) + -(f * (((0 + c * (l)) + -(k * (d)))))) + j * (((0 + c * (h)) + -(g * (d)))))))) := fun T => dstep T (lower := [[b, c, d], [f, g, h], [j, k, l]]) rfl (by kernel_rfl) (detL3 2 hb hc hd hf hg hh hj hk hl) (mul_sm hm (sz3 hb hc hd hf hg hh hj hk hl) (by decide))
  simp only [loopM_cons, loopM_nil, bind_okS, e0, e1, e2, e3]
end T
set_option maxRecDepth 100000
namespace T
open PySem PySem.Spec PyProof.Rows L2
/-! ### the measure of a polynomial of degree 2, 3 or 4 -/
def c_LARGEST : Int := 499
noncomputable def m_check_poly (poly1 : (List Int)) : M Unit :=
  (M.bind (M.bind (if (decide (3 ≤ (List.length poly1 : Int))) = true then ok (decide ((List.length poly1 : Int) ≤ 5)) else ok false) fun z7 => if z7 = true then (M.bind (pget poly1 (-1)) fun u6 => ok (decide (u6 = 1))) else ok false) fun good2 => (M.bind (M.bind (ok good2) fun z8 => if z8 = true then (M.bind (M.bind (ok poly1) fun xs => loopM (fun (good9 : Bool) place10 => (M.bind (M.bind (ok (decide (place10 < (-c_LARGEST)))) fun z11 => if z11 = true then ok true else (ok (decide (c_LARGEST < place10)))) fun z12 => if z12 = true then (M.bind (ok false) fun good13 => ok (good13)) else ok (good9))) (good2) xs) fun good14 => ok (good14)) else ok (good2)) fun good15 => (M.bind (ok (!good15)) fun z16 => if z16 = true then (exc ⟨"NoPolynomial", []⟩) else ok ())))
noncomputable def m_power_sums (poly1 : (List Int)) (many2 : Int) : M (List Int) :=
  (M.bind (ok ((List.length poly1 : Int) - 1)) fun degree3 => (M.bind (ok [degree3]) fun sums4 => (M.bind (M.bind (prange2 1 many2) fun xs => loopM (fun (sums5 : (List Int)) k6 => (M.bind (ok 0) fun total7 => (M.bind (M.bind (prange2 1 (min k6 (degree3 + 1))) fun xs => loopM (fun (total8 : Int) i9 => (M.bind (M.bind (M.bind (pget poly1 (degree3 - i9)) fun u11 => M.bind (pget sums5 (k6 - i9)) fun u12 => (pmul u11 u12)) fun u13 => ok (total8 - u13)) fun total10 => ok (total10))) (total7) xs) fun total14 => (M.bind (M.bind (ok (decide (k6 ≤ degree3))) fun z15 => if z15 = true then (M.bind (M.bind (M.bind (pget poly1 (degree3 - k6)) fun u17 => (pmul k6 u17)) fun u18 => ok (total14 - u18)) fun total16 => ok (total16)) else ok (total14)) fun total19 => (M.bind (papp sums5 total19) fun sums20 => ok (sums20)))))) (sums4) xs) fun sums21 => ok sums21)))
noncomputable def m_measure (poly1 : (List Int)) : M Int :=
  (M.bind (M.bind (m_check_poly poly1) fun _ => ok ()) fun _ => (M.bind (ok ((List.length poly1 : Int) - 1)) fun degree2 => (M.bind (m_power_sums poly1 ((2 * degree2) - 1)) fun sums3 => (M.bind (ok ([] : List (List Int))) fun rows4 => (M.bind (M.bind (prangeI degree2) fun xs => loopM (fun (rows5 : (List (List Int))) i6 => (M.bind (M.bind (M.bind (prangeI degree2) fun xs => mapC (fun j7 => (pget sums3 (i6 + j7))) xs) fun u8 => (papp rows5 u8)) fun rows9 => ok (rows9))) (rows4) xs) fun rows10 => (m_det rows10))))))
section
variable {α : Type} (x0 x1 x2 x3 x4 x5 x6 : α) (l : List α)
theorem pg0 : pget (x0 :: l) 0 = ok x0 := pget_some (i := 0) rfl
theorem pg1 : pget (x0 :: x1 :: l) 1 = ok x1 := pget_some (i := 1) rfl
theorem pg2 : pget (x0 :: x1 :: x2 :: l) 2 = ok x2 := pget_some (i := 2) rfl
theorem pg3 : pget (x0 :: x1 :: x2 :: x3 :: l) 3 = ok x3 := pget_some (i := 3) rfl
theorem pg4 : pget (x0 :: x1 :: x2 :: x3 :: x4 :: l) 4 = ok x4 := pget_some (i := 4) rfl
theorem pg5 : pget (x0 :: x1 :: x2 :: x3 :: x4 :: x5 :: l) 5 = ok x5 := pget_some (i := 5) rfl
end
theorem r2 (n : Nat) (h : n < 1000) : prange2 1 (n : Int) = ok (rangeL 1 (n - 1)) := by
  have e : (2 : Int) ^ 62 = 4611686018427387904 := by decide
  refine (grd_pos ?_ _).trans ?_
  · rw [e]; omega
  · congr 2; omega
theorem r2_1 : prange2 1 1 = ok [] := r2 1 (by decide)
theorem r2_2 : prange2 1 2 = ok [1] := r2 2 (by decide)
theorem r2_3 : prange2 1 3 = ok [1, 2] := r2 3 (by decide)
theorem r2_4 : prange2 1 4 = ok [1, 2, 3] := r2 4 (by decide)
theorem r2_5 : prange2 1 5 = ok [1, 2, 3, 4] := r2 5 (by decide)
theorem r2_7 : prange2 1 7 = ok [1, 2, 3, 4, 5, 6] := r2 7 (by decide)
theorem sm1 {x : Int} (h : x.natAbs ≤ 499) : ∀ y, pmul x y = ok (x * y) := fun y => pmul_left (by rw [pow64]; omega)
theorem pa {x : Int} {l : List Int} (h : l.length < 100) : papp l x = ok (l ++ [x]) := papp_ok (by omega)
theorem mn (i j : Int) (h : i ≤ j) : min i j = i := Int.min_eq_left h
theorem mx (i j : Int) (h : j ≤ i) : min i j = j := Int.min_eq_right h
theorem ps2 {a b : Int} (ha : a.natAbs ≤ 499) (hb : b.natAbs ≤ 499) : ∃ s1 s2, m_power_sums [a, b, 1] 3 = ok [2, s1, s2] ∧ s1 = 0 - 1 * b ∧ s2 = 0 - b * s1 - 2 * a := by
  refine ⟨_, _, ?_, rfl, rfl⟩
  unfold m_power_sums
  have h1 := sm1 (x := 1) (by decide)
  have h2 := sm1 (x := 2) (by decide)
  simp only [List.length_cons, List.length_nil, bind_okS, r2_3]
  simp [loopM_cons, loopM_nil, bind_okS, r2_1, r2_2, r2_3, pg0, pg1, pg2, sm1 ha, sm1 hb, h1, h2, pa, bind_ret, mn 1 3, mn 2 3]
theorem ps3 {a b c : Int} (ha : a.natAbs ≤ 499) (hb : b.natAbs ≤ 499) (hc : c.natAbs ≤ 499) : ∃ s1 s2 s3 s4, m_power_sums [a, b, c, 1] 5 = ok [3, s1, s2, s3, s4] ∧ s1 = 0 - 1 * c ∧ s2 = 0 - c * s1 - 2 * b ∧ s3 = 0 - c * s2 - b * s1 - 3 * a ∧ s4 = 0 - c * s3 - b * s2 - a * s1 := by
  refine ⟨_, _, _, _, ?_, rfl, rfl, rfl, rfl⟩
  unfold m_power_sums
  have h1 := sm1 (x := 1) (by decide)
  have h2 := sm1 (x := 2) (by decide)
  have h3 := sm1 (x := 3) (by decide)
  simp only [List.length_cons, List.length_nil, bind_okS, r2_5]
  simp [loopM_cons, loopM_nil, bind_okS, r2_1, r2_2, r2_3, r2_4, pg0, pg1, pg2, pg3, sm1 ha, sm1 hb, sm1 hc, h1, h2, h3, pa, bind_ret, mn 1 4, mn 2 4, mn 3 4, mn 4 4]
theorem ps4 {a b c d : Int} (ha : a.natAbs ≤ 499) (hb : b.natAbs ≤ 499) (hc : c.natAbs ≤ 499) (hd : d.natAbs ≤ 499) : ∃ s1 s2 s3 s4 s5 s6, m_power_sums [a, b, c, d, 1] 7 = ok [4, s1, s2, s3, s4, s5, s6] ∧ s1 = 0 - 1 * d ∧ s2 = 0 - d * s1 - 2 * c ∧ s3 = 0 - d * s2 - c * s1 - 3 * b ∧ s4 = 0 - d * s3 - c * s2 - b * s1 - 4 * a ∧ s5 = 0 - d * s4 - c * s3 - b * s2 - a * s1 ∧ s6 = 0 - d * s5 - c * s4 - b * s3 - a * s2 := by
  refine ⟨_, _, _, _, _, _, ?_, rfl, rfl, rfl, rfl, rfl, rfl⟩
  unfold m_power_sums
  have h1 := sm1 (x := 1) (by decide)
  have h2 := sm1 (x := 2) (by decide)
  have h3 := sm1 (x := 3) (by decide)
  have h4 := sm1 (x := 4) (by decide)
  simp only [List.length_cons, List.length_nil, bind_okS, r2_7]
  simp [loopM_cons, loopM_nil, bind_okS, r2_1, r2_2, r2_3, r2_4, r2_5, pg0, pg1, pg2, pg3, pg4, pg5, sm1 ha, sm1 hb, sm1 hc, sm1 hd, h1, h2, h3, h4, pa, bind_ret, mn 1 5, mn 2 5, mn 3 5, mn 4 5, mn 5 5, mx 6 5]
theorem id2 {a b s1 s2 : Int} (e1 : s1 = 0 - 1 * b) (e2 : s2 = 0 - b * s1 - 2 * a) : ((0 + 2 * (s2)) + -(s1 * (s1))) = b * b - 4 * a := by
  subst e1; subst e2; grind
theorem id3 {a b c s1 s2 s3 s4 : Int} (e1 : s1 = 0 - 1 * c) (e2 : s2 = 0 - c * s1 - 2 * b) (e3 : s3 = 0 - c * s2 - b * s1 - 3 * a) (e4 : s4 = 0 - c * s3 - b * s2 - a * s1) :
    3 * (s2 * s4 - s3 * s3) - s1 * (s1 * s4 - s3 * s2) + s2 * (s1 * s3 - s2 * s2) = c * c * b * b - 4 * b * b * b - 4 * c * c * c * a - 27 * a * a + 18 * c * b * a := by
  subst e4; subst e3; subst e2; subst e1; grind
theorem id4 {a b c d s1 s2 s3 s4 s5 s6 : Int} (e1 : s1 = 0 - 1 * d) (e2 : s2 = 0 - d * s1 - 2 * c) (e3 : s3 = 0 - d * s2 - c * s1 - 3 * b) (e4 : s4 = 0 - d * s3 - c * s2 - b * s1 - 4 * a) (e5 : s5 = 0 - d * s4 - c * s3 - b * s2 - a * s1) (e6 : s6 = 0 - d * s5 - c * s4 - b * s3 - a * s2) :
    27 * (4 * (s2 * (s4 * s6 - s5 * s5) - s3 * (s3 * s6 - s5 * s4) + s4 * (s3 * s5 - s4 * s4)) - s1 * (s1 * (s4 * s6 - s5 * s5) - s3 * (s2 * s6 - s5 * s3) + s4 * (s2 * s5 - s4 * s3)) + s2 * (s1 * (s3 * s6 - s4 * s5) - s2 * (s2 * s6 - s5 * s3) + s4 * (s2 * s4 - s3 * s3)) - s3 * (s1 * (s3 * s5 - s4 * s4) - s2 * (s2 * s5 - s4 * s3) + s3 * (s2 * s4 - s3 * s3)))
      = 4 * (12 * a - 3 * d * b + c * c) * (12 * a - 3 * d * b + c * c) * (12 * a - 3 * d * b + c * c) - (72 * c * a + 9 * d * c * b - 27 * b * b - 27 * d * d * a - 2 * c * c * c) * (72 * c * a + 9 * d * c * b - 27 * b * b - 27 * d * d * a - 2 * c * c * c) := by
  subst e6; subst e5; subst e4; subst e3; subst e2; subst e1; grind
theorem check_ok {f : List Int} (h3 : 3 ≤ f.length) (h5 : f.length ≤ 5) (hl : pget f (-1) = ok 1) (hb : ∀ x ∈ f, x.natAbs ≤ 499) : m_check_poly f = ok () := by
  unfold m_check_poly
  have hC : c_LARGEST = 499 := rfl
  rw [if_pos (decide_eq_true (by omega)), bind_okS, decide_eq_true (by omega), if_pos rfl, hl, bind_ok, bind_ok, bind_ok, decide_eq_true rfl, if_pos rfl, bind_ok]
  obtain ⟨c, e, h⟩ := loopM_inv (f := fun (good9 : Bool) place10 => (M.bind (M.bind (ok (decide (place10 < (-c_LARGEST)))) fun z11 => if z11 = true then ok true else (ok (decide (c_LARGEST < place10)))) fun z12 => if z12 = true then (M.bind (ok false) fun good13 => ok (good13)) else ok (good9))) (fun _ g => g = true) (xs := f) (c := true) rfl (fun i c x hx hc => by
    have hx' := hb x (List.mem_of_getElem? hx)
    rw [hC]
    rw [bind_okS, if_neg (by simp; omega), bind_okS, if_neg (by simp; omega)]
    exact ⟨c, rfl, hc⟩)
  rw [e, h]
  rfl
theorem sm10 {x : Int} (h : x.natAbs ≤ 499) : Sm 9 x := Sm.of h
theorem meas2 {a b : Int} (ha : a.natAbs ≤ 499) (hb : b.natAbs ≤ 499) : m_measure [a, b, 1] = ok (b * b - 4 * a) := by
  obtain ⟨s1, s2, e, e1, e2⟩ := ps2 ha hb
  have k1 : Sm 1000 s1 := e1 ▸ ((show Sm 0 0 from Nat.zero_le _).sub ((show Sm 1 1 by unfold Sm; decide).mul (sm10 hb))).mono (by decide)
  have k2 : Sm 1000 s2 := by
    have h1 : Sm 20 s1 := e1 ▸ ((show Sm 0 0 from Nat.zero_le _).sub ((show Sm 1 1 by unfold Sm; decide).mul (sm10 hb))).mono (by decide)
    exact e2 ▸ (((show Sm 0 0 from Nat.zero_le _).sub ((sm10 hb).mul h1)).sub ((show Sm 2 2 by unfold Sm; decide).mul (sm10 ha))).mono (by decide)
  unfold m_measure
  rw [check_ok (by simp) (by simp) (by rfl) (fun x hx => by
    simp only [List.mem_cons, List.not_mem_nil, or_false] at hx
    rcases hx with rfl | rfl | rfl
    · exact ha
    · exact hb
    · decide), bind_ok, bind_ok, bind_okS]
  rw [show m_power_sums [a, b, 1] (2 * ((([a, b, 1] : List Int).length : Int) - 1) - 1) = ok [2, s1, s2] from e, bind_ok, bind_okS]
  rw [show (M.bind (prangeI ((([a, b, 1] : List Int).length : Int) - 1)) fun xs => loopM (fun (rows5 : (List (List Int))) i6 => (M.bind (M.bind (M.bind (prangeI ((([a, b, 1] : List Int).length : Int) - 1)) fun xs => mapC (fun j7 => (pget [2, s1, s2] (i6 + j7))) xs) fun u8 => (papp rows5 u8)) fun rows9 => ok (rows9))) ([] : List (List Int)) xs) = ok [[2, s1], [s1, s2]] by kernel_rfl, bind_ok, detD2 (by unfold Sm; decide) k1 k1 k2, id2 e1 e2]
theorem s0 : Sm 0 0 := Nat.zero_le _
theorem sK {x : Int} (h : x.natAbs ≤ 4) : Sm 2 x := Sm.of h
theorem bounds3 {a b c s1 s2 s3 s4 : Int} (ha : a.natAbs ≤ 499) (hb : b.natAbs ≤ 499) (hc : c.natAbs ≤ 499) (e1 : s1 = 0 - 1 * c) (e2 : s2 = 0 - c * s1 - 2 * b) (e3 : s3 = 0 - c * s2 - b * s1 - 3 * a) (e4 : s4 = 0 - c * s3 - b * s2 - a * s1) : Sm 1000 s1 ∧ Sm 1000 s2 ∧ Sm 1000 s3 ∧ Sm 1000 s4 := by
  have q1 : Sm 13 s1 := by rw [e1]; exact (Sm.sub s0 (Sm.mul (sK (x := 1) (by decide)) (sm10 hc))).mono (by decide)
  have q2 : Sm 25 s2 := by rw [e2]; exact (Sm.sub (Sm.sub s0 (Sm.mul (sm10 hc) q1)) (Sm.mul (sK (x := 2) (by decide)) (sm10 hb))).mono (by decide)
  have q3 : Sm 38 s3 := by rw [e3]; exact (Sm.sub (Sm.sub (Sm.sub s0 (Sm.mul (sm10 hc) q2)) (Sm.mul (sm10 hb) q1)) (Sm.mul (sK (x := 3) (by decide)) (sm10 ha))).mono (by decide)
  have q4 : Sm 51 s4 := by rw [e4]; exact (Sm.sub (Sm.sub (Sm.sub s0 (Sm.mul (sm10 hc) q3)) (Sm.mul (sm10 hb) q2)) (Sm.mul (sm10 ha) q1)).mono (by decide)
  exact ⟨q1.mono (by decide), q2.mono (by decide), q3.mono (by decide), q4.mono (by decide)⟩
theorem meas3 {a b c : Int} (ha : a.natAbs ≤ 499) (hb : b.natAbs ≤ 499) (hc : c.natAbs ≤ 499) : m_measure [a, b, c, 1] = ok (c * c * b * b - 4 * b * b * b - 4 * c * c * c * a - 27 * a * a + 18 * c * b * a) := by
  obtain ⟨s1, s2, s3, s4, e, e1, e2, e3, e4⟩ := ps3 ha hb hc
  obtain ⟨k1, k2, k3, k4⟩ := bounds3 ha hb hc e1 e2 e3 e4
  unfold m_measure
  rw [check_ok (by simp) (by simp) (by rfl) (fun x hx => by
    simp only [List.mem_cons, List.not_mem_nil, or_false] at hx
    rcases hx with rfl | rfl | rfl | rfl
    · exact ha
    · exact hb
    · exact hc
    · decide), bind_ok, bind_ok, bind_okS]
  rw [show m_power_sums [a, b, c, 1] (2 * ((([a, b, c, 1] : List Int).length : Int) - 1) - 1) = ok [3, s1, s2, s3, s4] from e, bind_ok, bind_okS]
  rw [show (M.bind (prangeI ((([a, b, c, 1] : List Int).length : Int) - 1)) fun xs => loopM (fun (rows5 : (List (List Int))) i6 => (M.bind (M.bind (M.bind (prangeI ((([a, b, c, 1] : List Int).length : Int) - 1)) fun xs => mapC (fun j7 => (pget [3, s1, s2, s3, s4] (i6 + j7))) xs) fun u8 => (papp rows5 u8)) fun rows9 => ok (rows9))) ([] : List (List Int)) xs) = ok [[3, s1, s2], [s1, s2, s3], [s2, s3, s4]] by kernel_rfl, bind_ok]
  rw [detD3 (by unfold Sm; decide) k1 k2 k1 k2 k3 k2 k3 k4]
  congr 1
  rw [← id3 e1 e2 e3 e4]
  grind
theorem bounds4 {a b c d s1 s2 s3 s4 s5 s6 : Int} (ha : a.natAbs ≤ 499) (hb : b.natAbs ≤ 499) (hc : c.natAbs ≤ 499) (hd : d.natAbs ≤ 499) (e1 : s1 = 0 - 1 * d) (e2 : s2 = 0 - d * s1 - 2 * c) (e3 : s3 = 0 - d * s2 - c * s1 - 3 * b) (e4 : s4 = 0 - d * s3 - c * s2 - b * s1 - 4 * a) (e5 : s5 = 0 - d * s4 - c * s3 - b * s2 - a * s1) (e6 : s6 = 0 - d * s5 - c * s4 - b * s3 - a * s2) : Sm 1000 s1 ∧ Sm 1000 s2 ∧ Sm 1000 s3 ∧ Sm 1000 s4 ∧ Sm 1000 s5 ∧ Sm 1000 s6 := by
  have q1 : Sm 13 s1 := by rw [e1]; exact (Sm.sub s0 (Sm.mul (sK (x := 1) (by decide)) (sm10 hd))).mono (by decide)
  have q2 : Sm 25 s2 := by rw [e2]; exact (Sm.sub (Sm.sub s0 (Sm.mul (sm10 hd) q1)) (Sm.mul (sK (x := 2) (by decide)) (sm10 hc))).mono (by decide)
  have q3 : Sm 38 s3 := by rw [e3]; exact (Sm.sub (Sm.sub (Sm.sub s0 (Sm.mul (sm10 hd) q2)) (Sm.mul (sm10 hc) q1)) (Sm.mul (sK (x := 3) (by decide)) (sm10 hb))).mono (by decide)
  have q4 : Sm 52 s4 := by rw [e4]; exact (Sm.sub (Sm.sub (Sm.sub (Sm.sub s0 (Sm.mul (sm10 hd) q3)) (Sm.mul (sm10 hc) q2)) (Sm.mul (sm10 hb) q1)) (Sm.mul (sK (x := 4) (by decide)) (sm10 ha))).mono (by decide)
  have q5 : Sm 66 s5 := by rw [e5]; exact (Sm.sub (Sm.sub (Sm.sub (Sm.sub s0 (Sm.mul (sm10 hd) q4)) (Sm.mul (sm10 hc) q3)) (Sm.mul (sm10 hb) q2)) (Sm.mul (sm10 ha) q1)).mono (by decide)
  have q6 : Sm 80 s6 := by rw [e6]; exact (Sm.sub (Sm.sub (Sm.sub (Sm.sub s0 (Sm.mul (sm10 hd) q5)) (Sm.mul (sm10 hc) q4)) (Sm.mul (sm10 hb) q3)) (Sm.mul (sm10 ha) q2)).mono (by decide)
  exact ⟨q1.mono (by decide), q2.mono (by decide), q3.mono (by decide), q4.mono (by decide), q5.mono (by decide), q6.mono (by decide)⟩
theorem meas4 {a b c d : Int} (ha : a.natAbs ≤ 499) (hb : b.natAbs ≤ 499) (hc : c.natAbs ≤ 499) (hd : d.natAbs ≤ 499) : m_measure [a, b, c, d, 1] = ok ((4 * (12 * a - 3 * d * b + c * c) * (12 * a - 3 * d * b + c * c) * (12 * a - 3 * d * b + c * c) - (72 * c * a + 9 * d * c * b - 27 * b * b - 27 * d * d * a - 2 * c * c * c) * (72 * c * a + 9 * d * c * b - 27 * b * b - 27 * d * d * a - 2 * c * c * c)) / 27) := by
  obtain ⟨s1, s2, s3, s4, s5, s6, e, e1, e2, e3, e4, e5, e6⟩ := ps4 ha hb hc hd
  obtain ⟨k1, k2, k3, k4, k5, k6⟩ := bounds4 ha hb hc hd e1 e2 e3 e4 e5 e6
  unfold m_measure
  rw [check_ok (by simp) (by simp) (by rfl) (fun x hx => by
    simp only [List.mem_cons, List.not_mem_nil, or_false] at hx
    rcases hx with rfl | rfl | rfl | rfl | rfl
    · exact ha
    · exact hb
    · exact hc
    · exact hd
    · decide), bind_ok, bind_ok, bind_okS]
  rw [show m_power_sums [a, b, c, d, 1] (2 * ((([a, b, c, d, 1] : List Int).length : Int) - 1) - 1) = ok [4, s1, s2, s3, s4, s5, s6] from e, bind_ok, bind_okS]
  rw [show (M.bind (prangeI ((([a, b, c, d, 1] : List Int).length : Int) - 1)) fun xs => loopM (fun (rows5 : (List (List Int))) i6 => (M.bind (M.bind (M.bind (prangeI ((([a, b, c, d, 1] : List Int).length : Int) - 1)) fun xs => mapC (fun j7 => (pget [4, s1, s2, s3, s4, s5, s6] (i6 + j7))) xs) fun u8 => (papp rows5 u8)) fun rows9 => ok (rows9))) ([] : List (List Int)) xs) = ok [[4, s1, s2, s3], [s1, s2, s3, s4], [s2, s3, s4, s5], [s3, s4, s5, s6]] by kernel_rfl, bind_ok]
  rw [detD4 (by unfold Sm; decide) k1 k2 k3 k1 k2 k3 k4 k2 k3 k4 k5 k3 k4 k5 k6]
  congr 1
  rw [← id4 e1 e2 e3 e4 e5 e6, Int.mul_ediv_cancel_left _ (by decide)]
  grind
end T
set_option maxRecDepth 100000
namespace T
open PySem PySem.Spec PyProof.Rows L2
/-! ### a mirror that ends, and what it ends with -/
def Tot {α : Type} (m : M α) (P : α → Prop) : Prop := ∃ v, m = ok v ∧ P v
section
variable {α β C ρ θ : Type}
theorem Tot.ok {P : α → Prop} {v : α} (h : P v) : Tot (T.ok v) P := ⟨v, rfl, h⟩
theorem Tot.eq {P : α → Prop} {m : M α} {v : α} (e : m = T.ok v) (h : P v) : Tot m P := ⟨v, e, h⟩
theorem Tot.of {m : M α} {v : α} (e : m = T.ok v) : Tot m (· = v) := ⟨v, e, rfl⟩
theorem Tot.bind {m : M α} {f : α → M β} {P : α → Prop} {Q : β → Prop} (h : Tot m P) (k : ∀ v, P v → Tot (f v) Q) : Tot (m.bind f) Q := by
  obtain ⟨v, e, p⟩ := h
  rw [e, bind_ok]; exact k v p
theorem Tot.mono {m : M α} {P Q : α → Prop} (h : Tot m P) (k : ∀ v, P v → Q v) : Tot m Q := by
  obtain ⟨v, e, p⟩ := h
  exact ⟨v, e, k v p⟩
theorem Tot.ite {c : Prop} [Decidable c] {a b : M α} {P : α → Prop} (h1 : c → Tot a P) (h2 : ¬ c → Tot b P) : Tot (if c then a else b) P := by
  by_cases h : c
  · rw [if_pos h]; exact h1 h
  · rw [if_neg h]; exact h2 h
theorem Tot.loopM {f : C → α → M C} (I : C → Prop) {xs : List α} {c : C} (h0 : I c) (hs : ∀ c x, x ∈ xs → I c → Tot (f c x) I) : Tot (T.loopM f c xs) I := by
  induction xs generalizing c with
  | nil => exact ⟨c, rfl, h0⟩
  | cons x xs ih =>
    obtain ⟨c1, e1, p1⟩ := hs c x List.mem_cons_self h0
    obtain ⟨c2, e2, p2⟩ := ih p1 fun c y hy => hs c y (List.mem_cons_of_mem _ hy)
    exact ⟨c2, by rw [loopM_cons, e1, bind_ok, e2], p2⟩
theorem Tot.loopMi {f : C → α → M C} (I : Nat → C → Prop) {xs : List α} {c : C} (h0 : I 0 c) (hs : ∀ (i : Nat) c x, xs[i]? = some x → I i c → Tot (f c x) (I (i + 1))) : Tot (T.loopM f c xs) (I xs.length) := by
  obtain ⟨c', e, p⟩ := loopM_inv I h0 hs
  exact ⟨c', e, p⟩
def FlP (I : C → Prop) (A : ρ → Prop) : Fl C ρ → Prop
  | .nx c => I c
  | .rt a => A a
theorem Tot.loopF {f : C → α → M (Fl C ρ)} (I : C → Prop) (A : ρ → Prop) {xs : List α} {c : C} (h0 : I c) (hs : ∀ c x, x ∈ xs → I c → Tot (f c x) (FlP I A)) : Tot (T.loopF f c xs) (FlP I A) := by
  induction xs generalizing c with
  | nil => exact ⟨.nx c, rfl, h0⟩
  | cons x xs ih =>
    obtain ⟨y, e1, p1⟩ := hs c x List.mem_cons_self h0
    show Tot ((f c x).bind (flk fun c => T.loopF f c xs)) (FlP I A)
    rw [e1, bind_ok]
    cases y with
    | rt a => exact ⟨_, rfl, p1⟩
    | nx c1 => exact ih p1 fun c y hy => hs c y (List.mem_cons_of_mem _ hy)
theorem Tot.sq {r : M (Fl C ρ)} {k : C → M θ} {ι : ρ → θ} {I : C → Prop} {A : ρ → Prop} {Q : θ → Prop} (h : Tot r (FlP I A)) (hk : ∀ c, I c → Tot (k c) Q) (hA : ∀ a, A a → Q (ι a)) : Tot (T.sq r k ι) Q := by
  obtain ⟨y, e, p⟩ := h
  unfold T.sq
  rw [e, bind_ok]
  cases y with
  | nx c => exact hk c p
  | rt a => exact ⟨_, rfl, hA a p⟩
theorem Tot.whileM {t : C → M Bool} {b : C → M C} (I : C → Prop) (μ : C → Nat) {c : C} (h0 : I c) (hs : ∀ c, I c → Tot (t c) fun z => z = true → Tot (b c) fun c' => I c' ∧ μ c' < μ c) : Tot (T.whileM t b c) fun c => I c ∧ t c = T.ok false := by
  obtain ⟨c', e, p, q⟩ := whileM_inv (t := t) (b := b) I μ (fun c hc => by
    obtain ⟨z, e, h⟩ := hs c hc
    cases z with
    | false => exact .inl e
    | true =>
      obtain ⟨c', e2, p, l⟩ := h rfl
      exact .inr ⟨e, c', e2, p, l⟩) h0
  exact ⟨c', e, p, q⟩
theorem Tot.mapC {f : α → M β} {P : β → Prop} {xs : List α} (h : ∀ x ∈ xs, Tot (f x) P) (hl : xs.length ≤ 16777216) : Tot (T.mapC f xs) fun ys => ys.length = xs.length ∧ ∀ y ∈ ys, P y := by
  obtain ⟨ys, e, l, _, m⟩ := mapC_ex (P := fun _ y => P y) h hl
  exact ⟨ys, e, l, fun y hy => (m y hy).elim fun _ h => h.2⟩
theorem Tot.pget {xs : List α} {x : Int} (h0 : 0 ≤ x) (h : x < xs.length) : Tot (T.pget xs x) (· ∈ xs) := by
  obtain ⟨n, rfl⟩ := Int.eq_ofNat_of_zero_le h0
  exact ⟨_, pget_nat (by omega), List.getElem_mem _⟩
theorem Tot.papp {xs : List α} {x : α} (h : xs.length < 16777216) : Tot (T.papp xs x) (· = xs ++ [x]) := .of (papp_ok h)
theorem Tot.pcat {xs ys : List α} (h : xs.length + ys.length ≤ 16777216) : Tot (T.pcat xs ys) (· = xs ++ ys) := .of (pcat_ok h)
theorem psz_ok {xs : List α} (h : xs.length ≤ 16777216) : psz xs = T.ok xs := grd_pos (by rw [sizeLineE]; exact h) _
end
theorem Tot.pmul_r {x y : Int} (h : y.natAbs < 18446744073709551616) : Tot (pmul x y) (· = x * y) := .of (pmul_right (by rw [pow64]; exact h))
theorem Tot.pmul_l {x y : Int} (h : x.natAbs < 18446744073709551616) : Tot (pmul x y) (· = x * y) := .of (pmul_left (by rw [pow64]; exact h))
theorem Tot.pmod {x y : Int} (h : 0 < y) : Tot (pmod x y) fun v => v = x % y ∧ 0 ≤ v ∧ v < y := ⟨_, pmod_pos h, rfl, Int.emod_nonneg _ (by omega), Int.emod_lt_of_pos _ h⟩
theorem Tot.pmod0 {x y : Int} (h : y ≠ 0) : Tot (T.pmod x y) (· = x.fmod y) := .of (pmod_ok h)
theorem Tot.pdiv0 {x y : Int} (h : y ≠ 0) (h2 : y.natAbs.log2 < 9000) : Tot (T.pdiv x y) (· = x.fdiv y) := .of (pdiv_ok h h2)
theorem mem_rangeL {lo x : Int} {n : Nat} (h : x ∈ rangeL lo n) : lo ≤ x ∧ x < lo + n := by
  obtain ⟨i, hi⟩ := List.getElem?_of_mem h
  rw [rangeL_get] at hi
  by_cases c : i < n
  · rw [if_pos c] at hi
    have := Option.some.inj hi
    omega
  · rw [if_neg c] at hi; cases hi
theorem Tot.prange2 {i j : Int} (h1 : i.natAbs < 1000000000) (h2 : j.natAbs < 1000000000) : Tot (prange2 i j) fun xs => ∀ x ∈ xs, i ≤ x ∧ x < j := by
  have e : (2 : Int) ^ 62 = 4611686018427387904 := by decide
  refine ⟨rangeL i (j - i).toNat, grd_pos (by rw [e]; omega) _, fun x hx => ?_⟩
  have := mem_rangeL hx
  omega
theorem Tot.prangeI {n : Int} (h0 : 0 ≤ n) (h : n < 1000000000) : Tot (prangeI n) fun xs => xs = rangeL 0 n.toNat := by
  obtain ⟨k, rfl⟩ := Int.eq_ofNat_of_zero_le h0
  exact ⟨_, prangeI_nat (by have e : (2 : Nat) ^ 62 = 4611686018427387904 := by decide
                            rw [e]; omega), by simp⟩
theorem Tot.pset {α : Type} {xs : List α} {i : Int} {x : α} (h0 : 0 ≤ i) (h : i < xs.length) : Tot (T.pset xs i x) fun ys => ys = xs.set i.toNat x ∧ ys.length = xs.length := by
  obtain ⟨n, rfl⟩ := Int.eq_ofNat_of_zero_le h0
  exact ⟨_, pset_nat (by omega), by simp, by simp⟩
theorem natAbs_fdiv_le (x y : Int) : (x.fdiv y).natAbs ≤ x.natAbs + 1 := by
  rw [Int.fdiv_eq_ediv]
  have := Int.natAbs_ediv_le_natAbs x y
  split <;> omega
theorem log2_small {x : Int} (h : x.natAbs < 18446744073709551616) : x.natAbs.log2 < 9000 := by
  have := log2_le (show x.natAbs ≤ 18446744073709551616 by omega)
  have e : Nat.log2 18446744073709551616 = 64 := by decide +kernel
  omega
theorem pget_end (l : List Int) (a : Int) : pget (l ++ [a]) (-1) = ok a := by
  unfold pget
  rw [atI_last]
end T
set_option maxRecDepth 100000
set_option maxHeartbeats 1000000
namespace T
open PySem PySem.Spec PyProof.Rows L2
/-! ### the ring: that it is made or refused, at every row -/
def c_PRIMES : (List Int) := [2, 3, 5, 7, 11, 13, 17, 19, 23, 29, 31, 37, 41, 43, 47, 53, 59, 61, 67, 71, 73, 79, 83, 89, 97, 101, 103, 107, 109, 113, 127, 131, 137, 139, 149, 151, 157, 163, 167, 173, 179, 181, 191, 193, 197, 199]
def c_GREATEST : Int := 39999
def tbl_RingError : List (Str × Bool) := [("RingError", true), ("NoPolynomial", true), ("TooGreat", true), ("NoPrime", true), ("FallsApart", true), ("NotWhole", true)]
noncomputable def m_poly_at (f1 : (List Int)) (x2 : Int) : M Int :=
  (M.bind (ok 0) fun value3 => (M.bind (M.bind (ok (List.reverse f1)) fun xs => loopM (fun (value4 : Int) place5 => (M.bind (M.bind (pmul value4 x2) fun u7 => ok (u7 + place5)) fun value6 => ok (value6))) (value3) xs) fun value8 => (ok value8)))
noncomputable def m_root (m1 : Int) : M Int :=
  (M.bind (ok 1) fun high2 => (M.bind (whileM (fun (high3 : Int) => (M.bind (pmul high3 high3) fun u4 => ok (decide (u4 ≤ m1)))) (fun (high3 : Int) => (M.bind (ok (2 * high3)) fun high5 => ok (high5))) (high2)) fun high6 => (M.bind (ok 0) fun low7 => (M.bind (whileM (fun (s8 : Int × Int) => (ok (decide (1 < (s8.1 - s8.2))))) (fun (s8 : Int × Int) => (M.bind (ok ((s8.2 + s8.1) / 2)) fun middle9 => (M.bind (M.bind (pmul middle9 middle9) fun u10 => ok (decide (u10 ≤ m1))) fun z11 => if z11 = true then (M.bind (ok middle9) fun low12 => ok (s8.1, low12)) else (M.bind (ok middle9) fun high13 => ok (high13, s8.2))))) (high6, low7)) fun s14 => (ok s14.2)))))
noncomputable def m_small_primes  : M (List Int) :=
  (ok c_PRIMES)
noncomputable def m_whole_root (poly1 : (List Int)) : M (Option Int) :=
  (M.bind (M.bind (pget poly1 0) fun u3 => ok (Int.natAbs u3 : Int)) fun last2 => (M.bind (ok (decide (last2 = 0))) fun z4 => if z4 = true then (ok (some 0)) else (sq (ρ := (Option Int)) (M.bind (prange2 1 (last2 + 1)) fun xs => loopF (fun (s5 : Unit) size6 => (M.bind (M.bind (pmod last2 size6) fun u7 => ok (decide (u7 = 0))) fun z8 => if z8 = true then (M.bind (M.bind (m_poly_at poly1 size6) fun u9 => ok (decide (u9 = 0))) fun z10 => if z10 = true then M.bind (ok (some size6)) fun a14 => ok (Fl.rt a14) else (M.bind (M.bind (m_poly_at poly1 (-size6)) fun u11 => ok (decide (u11 = 0))) fun z12 => if z12 = true then (M.bind (ok (some (-size6))) fun a13 => ok (Fl.rt a13)) else ok (Fl.nx ()))) else ok (Fl.nx ()))) () xs) (fun s15 => (ok none)) (fun a => a))))
noncomputable def m_pair_by (poly1 : (List Int)) (b2 : Int) : M (Option ((List Int) × (List Int))) :=
  (M.bind (M.bind (pget poly1 0) fun u4 => (pdiv u4 b2)) fun d3 => (M.bind (M.bind (M.bind (pget poly1 2) fun u6 => ok (u6 - b2)) fun u7 => ok (u7 - d3)) fun amid5 => (M.bind (ok ((!decide (b2 = d3)))) fun z8 => if z8 = true then (M.bind (M.bind (pget poly1 1) fun u11 => M.bind (M.bind (pget poly1 3) fun u10 => (pmul b2 u10)) fun u12 => ok (u11 - u12)) fun top9 => (M.bind (M.bind (pmod top9 (d3 - b2)) fun u13 => ok ((!decide (u13 = 0)))) fun z14 => if z14 = true then (ok none) else (M.bind (pdiv top9 (d3 - b2)) fun a15 => (M.bind (M.bind (M.bind (M.bind (pget poly1 3) fun u16 => ok (u16 - a15)) fun u17 => (pmul a15 u17)) fun u18 => ok ((!decide (u18 = amid5)))) fun z19 => if z19 = true then (ok none) else (M.bind (M.bind (M.bind (M.bind (pget poly1 3) fun u20 => ok (u20 - a15)) fun u21 => psz [d3, u21, 1]) fun u22 => ok ([b2, a15, 1], u22)) fun u23 => ok (some u23)))))) else (M.bind (M.bind (pget poly1 1) fun u25 => M.bind (M.bind (pget poly1 3) fun u24 => (pmul b2 u24)) fun u26 => ok ((!decide (u25 = u26)))) fun z27 => if z27 = true then (ok none) else (M.bind (M.bind (M.bind (pget poly1 3) fun u29 => M.bind (pget poly1 3) fun u30 => (pmul u29 u30)) fun u31 => ok (u31 - (4 * amid5))) fun square28 => (M.bind (M.bind (ok (decide (square28 < 0))) fun z35 => if z35 = true then ok true else (M.bind (M.bind (m_root square28) fun u32 => M.bind (m_root square28) fun u33 => (pmul u32 u33)) fun u34 => ok ((!decide (u34 = square28))))) fun z36 => if z36 = true then (ok none) else (M.bind (M.bind (M.bind (pget poly1 3) fun u38 => M.bind (m_root square28) fun u39 => ok (u38 + u39)) fun u40 => ok (u40 / 2)) fun a37 => (M.bind (M.bind (M.bind (M.bind (pget poly1 3) fun u41 => ok (u41 - a37)) fun u42 => psz [d3, u42, 1]) fun u43 => ok ([b2, a37, 1], u43)) fun u44 => ok (some u44)))))))))
noncomputable def m_apart (poly1 : (List Int)) : M (Option ((List Int) × (List Int))) :=
  (M.bind (M.bind (m_check_poly poly1) fun _ => ok ()) fun _ => (M.bind (m_whole_root poly1) fun at_2 => (M.bind (ok (Option.isSome at_2)) fun z3 => if z3 = true then (M.bind (M.bind (M.bind (M.bind (unO at_2) fun u4 => ok (-u4)) fun u5 => psz [u5, 1]) fun u10 => M.bind (M.bind (M.bind (M.bind (M.bind (unO at_2) fun u6 => ok (-u6)) fun u7 => psz [u7, 1]) fun u8 => (m_poly_parted poly1 u8)) fun u9 => ok u9.1) fun u11 => ok (u10, u11)) fun u12 => ok (some u12)) else (sq (ρ := (Option ((List Int) × (List Int)))) (M.bind (ok (decide ((List.length poly1 : Int) = 5))) fun z13 => if z13 = true then (M.bind (M.bind (pget poly1 0) fun u15 => ok (Int.natAbs u15 : Int)) fun last14 => (sq (ρ := (Option ((List Int) × (List Int)))) (M.bind (prange2 1 (last14 + 1)) fun xs => loopF (fun (s16 : Unit) size17 => (M.bind (M.bind (pmod last14 size17) fun u18 => ok (decide (u18 = 0))) fun z19 => if z19 = true then (sq (ρ := (Option ((List Int) × (List Int)))) (M.bind (ok [size17, (-size17)]) fun xs => loopF (fun (s20 : Unit) b21 => (M.bind (m_pair_by poly1 b21) fun found22 => (M.bind (ok (Option.isSome found22)) fun z23 => if z23 = true then (M.bind (ok found22) fun a24 => ok (Fl.rt a24)) else ok (Fl.nx ())))) () xs) (fun s25 => ok (Fl.nx ())) (fun a => Fl.rt a)) else ok (Fl.nx ()))) () xs) (fun s26 => ok (Fl.nx ())) (fun a => Fl.rt a))) else ok (Fl.nx ())) (fun s27 => (ok none)) (fun a => a)))))
noncomputable def m_mod_at (f1 : (List Int)) (x2 : Int) (p3 : Int) : M Int :=
  (M.bind (ok 0) fun value4 => (M.bind (M.bind (ok (List.reverse f1)) fun xs => loopM (fun (value5 : Int) place6 => (M.bind (M.bind (M.bind (pmul value5 x2) fun u8 => ok (u8 + place6)) fun u9 => (pmod u9 p3)) fun value7 => ok (value7))) (value4) xs) fun value10 => (ok value10)))
noncomputable def m_pair_of (left1 : (List Int)) (p2 : Int) : M (Option (List (List Int))) :=
  (M.bind (asRec4 (cutL left1 none (some 4))) fun p3 => (sq (ρ := (Option (List (List Int)))) (M.bind (prange2 1 p2) fun xs => loopF (fun (s4 : Unit) b5 => (M.bind (M.bind (M.bind (m_turned b5 p2) fun u7 => (pmul p3.1 u7)) fun u8 => (pmod u8 p2)) fun d6 => (M.bind (ok ((!decide (b5 = d6)))) fun z9 => if z9 = true then (M.bind (M.bind (M.bind (M.bind (pmul b5 p3.2.2.2) fun u11 => ok (p3.2.1 - u11)) fun u12 => M.bind (m_turned (d6 - b5) p2) fun u13 => (pmul u12 u13)) fun u14 => (pmod u14 p2)) fun a10 => (M.bind (M.bind (M.bind (M.bind (M.bind (M.bind (pmul a10 (p3.2.2.2 - a10)) fun u15 => ok (u15 + b5)) fun u16 => ok (u16 + d6)) fun u17 => ok (u17 - p3.2.2.1)) fun u18 => (pmod u18 p2)) fun u19 => ok (decide (u19 = 0))) fun z20 => if z20 = true then (M.bind (M.bind (M.bind (M.bind (pmod (p3.2.2.2 - a10) p2) fun u21 => psz [d6, u21, 1]) fun u22 => psz [[b5, a10, 1], u22]) fun u23 => ok (some u23)) fun a24 => ok (Fl.rt a24)) else ok (Fl.nx ()))) else (M.bind (M.bind (M.bind (M.bind (pmul b5 p3.2.2.2) fun u25 => ok (p3.2.1 - u25)) fun u26 => (pmod u26 p2)) fun u27 => ok (decide (u27 = 0))) fun z28 => if z28 = true then (sq (ρ := (Option (List (List Int)))) (M.bind (prangeI p2) fun xs => loopF (fun (s29 : Unit) a30 => (M.bind (M.bind (M.bind (M.bind (M.bind (M.bind (pmul a30 (p3.2.2.2 - a30)) fun u31 => ok (u31 + b5)) fun u32 => ok (u32 + d6)) fun u33 => ok (u33 - p3.2.2.1)) fun u34 => (pmod u34 p2)) fun u35 => ok (decide (u35 = 0))) fun z36 => if z36 = true then (M.bind (M.bind (M.bind (M.bind (pmod (p3.2.2.2 - a30) p2) fun u37 => psz [d6, u37, 1]) fun u38 => psz [[b5, a30, 1], u38]) fun u39 => ok (some u39)) fun a40 => ok (Fl.rt a40)) else ok (Fl.nx ()))) () xs) (fun s41 => ok (Fl.nx ())) (fun a => Fl.rt a)) else ok (Fl.nx ()))))) () xs) (fun s42 => (ok none)) (fun a => a)))
noncomputable def m_rootless (left1 : (List Int)) (p2 : Int) : M (List ((List Int) × Int)) :=
  (M.bind (ok none) fun pair3 => (M.bind (M.bind (ok (decide ((List.length left1 : Int) = 5))) fun z4 => if z4 = true then (M.bind (m_pair_of left1 p2) fun pair5 => ok (pair5)) else ok (pair3)) fun pair6 => (M.bind (ok (Option.isNone pair6)) fun z7 => if z7 = true then (ok [(left1, 1)]) else (M.bind (M.bind (M.bind (unO pair6) fun u8 => (pget u8 0)) fun u10 => M.bind (M.bind (unO pair6) fun u9 => (pget u9 1)) fun u11 => ok (decide (u10 = u11))) fun z12 => if z12 = true then (M.bind (M.bind (M.bind (unO pair6) fun u13 => (pget u13 0)) fun u14 => ok (u14, 2)) fun u15 => psz [u15]) else (M.bind (M.bind (unO pair6) fun u16 => (psortT u16)) fun xs => mapC (fun g17 => (ok (g17, 1))) xs)))))
noncomputable def m_split_by (poly1 : (List Int)) (p2 : Int) : M (List ((List Int) × Int)) :=
  (M.bind (ok (!decide (p2 ∈ c_PRIMES))) fun z3 => if z3 = true then (exc ⟨"NoPrime", []⟩) else (M.bind (m_mod_poly poly1 p2) fun left4 => (M.bind (ok ([] : List ((List Int) × Int))) fun parts5 => (M.bind (M.bind (prangeI p2) fun xs => loopM (fun (s6 : (List Int) × (List ((List Int) × Int))) low7 => (M.bind (ok 0) fun often8 => (M.bind (whileM (fun (s9 : (List Int) × Int) => (M.bind (ok (decide (1 < (List.length s9.1 : Int)))) fun z11 => if z11 = true then (M.bind (m_mod_at s9.1 (-low7) p2) fun u10 => ok (decide (u10 = 0))) else ok false)) (fun (s9 : (List Int) × Int) => (M.bind (M.bind (m_mod_parted s9.1 [low7, 1] p2) fun u13 => ok u13.1) fun left12 => (M.bind (ok (s9.2 + 1)) fun often14 => ok (left12, often14)))) (s6.1, often8)) fun s15 => (M.bind (ok (decide (0 < s15.2))) fun z16 => if z16 = true then (M.bind (papp s6.2 ([low7, 1], s15.2)) fun parts17 => ok (s15.1, parts17)) else ok (s15.1, s6.2))))) (left4, parts5) xs) fun s18 => (M.bind (M.bind (ok (decide (1 < (List.length s18.1 : Int)))) fun z19 => if z19 = true then (M.bind (M.bind (m_rootless s18.1 p2) fun u21 => (pcat s18.2 u21)) fun parts20 => ok (parts20)) else ok (s18.2)) fun parts22 => ok parts22)))))
noncomputable def m_square_primes (size1 : Int) : M (List Int) :=
  (M.bind m_small_primes fun xs => compL (fun p2 => (M.bind (M.bind (pmul p2 p2) fun u3 => (pmod size1 u3)) fun u4 => ok (decide (u4 = 0)))) (fun p2 => (ok p2)) xs)
noncomputable def m_parts_of (poly1 : (List Int)) (p2 : Int) : M (List ((List Int) × Int × (List Int))) :=
  (M.bind (ok ([] : List ((List Int) × Int × (List Int)))) fun parts3 => (M.bind (M.bind (m_split_by poly1 p2) fun xs => loopM (fun (parts4 : (List ((List Int) × Int × (List Int)))) x5 => (M.bind (M.bind (M.bind (M.bind (m_poly_parted poly1 x5.1) fun u6 => ok u6.2) fun u7 => ok (x5.1, x5.2, u7)) fun u8 => (papp parts4 u8)) fun parts9 => ok (parts9))) (parts3) xs) fun parts10 => ok parts10))
noncomputable def m_divides_all (m1 : Int) (row2 : (List Int)) : M Bool :=
  (M.bind (mapC (fun place3 => (M.bind (pmod place3 m1) fun u4 => ok (decide (u4 = 0)))) row2) fun u5 => ok (List.all u5 id))
noncomputable def m_outside (poly1 : (List Int)) (size2 : Int) : M (Option (Int × (List Int))) :=
  (sq (ρ := (Option (Int × (List Int)))) (M.bind (m_square_primes size2) fun xs => loopF (fun (s3 : Unit) p4 => (sq (ρ := (Option (Int × (List Int)))) (M.bind (m_parts_of poly1 p4) fun xs => loopF (fun (s5 : Unit) x6 => (M.bind (M.bind (ok (decide (2 ≤ x6.2.1))) fun z8 => if z8 = true then (M.bind (pmul p4 p4) fun u7 => (m_divides_all u7 x6.2.2)) else ok false) fun z9 => if z9 = true then (M.bind (M.bind (M.bind (m_poly_parted poly1 x6.1) fun u11 => ok u11.1) fun xs => mapC (fun place12 => (pmod place12 p4)) xs) fun row10 => (M.bind (whileM (fun (row13 : (List Int)) => (ok (decide ((List.length row13 : Int) < ((List.length poly1 : Int) - 1))))) (fun (row13 : (List Int)) => (M.bind (papp row13 0) fun row14 => ok (row14))) (row10)) fun row15 => (M.bind (ok (some (p4, row15))) fun a16 => ok (Fl.rt a16)))) else ok (Fl.nx ()))) () xs) (fun s17 => ok (Fl.nx ())) (fun a => Fl.rt a))) () xs) (fun s18 => (ok none)) (fun a => a))
noncomputable def m_Ring (poly2 : (List Int)) : M Rg :=
  (M.bind (m_apart poly2) fun found3 => (M.bind (M.bind (ok (Option.isSome found3)) fun z4 => if z4 = true then (M.bind (M.bind (unO found3) fun u5 => ok u5.1) fun u7 => M.bind (M.bind (unO found3) fun u6 => ok u6.2) fun u8 => (exc ⟨"FallsApart", [("right", XF.row u8), ("left", XF.row u7)]⟩)) else ok ()) fun s9 => (M.bind (m_measure poly2) fun size10 => (M.bind (M.bind (ok (decide (c_GREATEST < (Int.natAbs size10 : Int)))) fun z11 => if z11 = true then (exc ⟨"TooGreat", []⟩) else ok ()) fun s12 => (M.bind (m_outside poly2 size10) fun lack13 => (M.bind (M.bind (ok (Option.isSome lack13)) fun z14 => if z14 = true then (M.bind (M.bind (unO lack13) fun u15 => ok u15.1) fun u17 => M.bind (M.bind (unO lack13) fun u16 => ok u16.2) fun u18 => (exc ⟨"NotWhole", [("number", XF.row u18), ("prime", XF.int u17)]⟩)) else ok ()) fun s19 => (M.bind (ok poly2) fun poly20 => (M.bind (ok ((List.length poly2 : Int) - 1)) fun degree21 => (M.bind (ok size10) fun measure22 => ok (poly20, degree21, measure22))))))))))
theorem e_poly_at : m_poly_at = m_horner := rfl
/-- a ring's polynomial -/
def Gd (f : List Int) : Prop := ∃ g : List Int, f = g ++ [1] ∧ 2 ≤ g.length ∧ g.length ≤ 4 ∧ ∀ x ∈ g, x.natAbs ≤ 499
theorem Gd.len {f : List Int} (h : Gd f) : 3 ≤ f.length ∧ f.length ≤ 5 := by
  obtain ⟨g, rfl, h2, h4, _⟩ := h
  rw [List.length_append]
  exact ⟨by simp; omega, by simp; omega⟩
theorem Gd.mem {f : List Int} (h : Gd f) : ∀ x ∈ f, x.natAbs ≤ 499 := fun x hx => by
  obtain ⟨g, rfl, _, _, hb⟩ := h
  rcases List.mem_append.mp hx with z | z
  · exact hb x z
  · have : x = 1 := by simpa using z
    subst this; decide
theorem Gd.sm {f : List Int} (h : Gd f) : ∀ x ∈ f, Sm 9 x := fun x hx => sm10 (h.mem x hx)
theorem check_step (good : Bool) (x : Int) : (M.bind (M.bind (ok (decide (x < (-c_LARGEST)))) fun z11 => if z11 = true then ok true else (ok (decide (c_LARGEST < x)))) fun z12 => if z12 = true then (M.bind (ok false) fun good13 => ok (good13)) else ok (good)) = ok (good && decide (x.natAbs ≤ 499)) := by
  have hC : c_LARGEST = 499 := rfl
  rw [hC]
  by_cases h1 : x < -499
  · rw [decide_eq_true h1, decide_eq_false (show ¬ x.natAbs ≤ 499 by omega), Bool.and_false]; rfl
  · rw [decide_eq_false h1, bind_ok, if_neg (by decide)]
    by_cases h2 : 499 < x
    · rw [decide_eq_true h2, decide_eq_false (show ¬ x.natAbs ≤ 499 by omega), Bool.and_false]; rfl
    · rw [decide_eq_false h2, decide_eq_true (show x.natAbs ≤ 499 by omega), Bool.and_true]; rfl
theorem foldl_and {α : Type} (p : α → Bool) : ∀ (l : List α) (b : Bool), l.foldl (fun a x => a && p x) b = (b && l.all p)
  | [], b => by rw [List.foldl_nil, List.all_nil, Bool.and_true]
  | x :: l, b => by rw [List.foldl_cons, foldl_and p l, List.all_cons, Bool.and_assoc]
theorem check_loop (f : List Int) (good : Bool) : loopM (fun (good9 : Bool) place10 => (M.bind (M.bind (ok (decide (place10 < (-c_LARGEST)))) fun z11 => if z11 = true then ok true else (ok (decide (c_LARGEST < place10)))) fun z12 => if z12 = true then (M.bind (ok false) fun good13 => ok (good13)) else ok (good9))) good f = ok (good && f.all fun x => decide (x.natAbs ≤ 499)) :=
  (loopM_fold (g := fun a x => a && decide (x.natAbs ≤ 499)) (fun _ => True) trivial fun c x _ _ => ⟨check_step c x, trivial⟩).1.trans (by rw [foldl_and])
theorem check_cases (f : List Int) : (m_check_poly f = ok () ∧ Gd f) ∨ m_check_poly f = exc ⟨"NoPolynomial", []⟩ := by
  unfold m_check_poly
  have no : ∀ k : Bool → M Unit, k false = exc ⟨"NoPolynomial", []⟩ → (M.bind (ok false) fun good2 => k good2) = exc ⟨"NoPolynomial", []⟩ := fun k h => h
  by_cases h3 : 3 ≤ f.length
  · by_cases h5 : f.length ≤ 5
    · rw [decide_eq_true (show (3 : Int) ≤ (f.length : Int) by omega), if_pos rfl, bind_ok, decide_eq_true (show (f.length : Int) ≤ 5 by omega), if_pos rfl]
      obtain ⟨g, a, rfl⟩ : ∃ g a, f = g ++ [a] := ⟨f.dropLast, f.getLast (by intro z; subst z; simp at h3), (List.dropLast_concat_getLast _).symm⟩
      rw [pget_end, bind_ok]
      by_cases ha : a = 1
      · subst ha
        rw [decide_eq_true rfl, bind_ok, bind_ok, if_pos rfl, bind_ok, check_loop, Bool.true_and, bind_ok]
        by_cases hb : ((g ++ [1]).all fun x => decide (x.natAbs ≤ 499)) = true
        · rw [hb]
          refine .inl ⟨rfl, g, rfl, by simp at h3; omega, by simp at h5; omega, fun x hx => ?_⟩
          have := List.all_eq_true.mp hb x (List.mem_append_left _ hx)
          simpa using this
        · rw [Bool.not_eq_true] at hb
          rw [hb]
          exact .inr rfl
      · rw [decide_eq_false ha]
        exact .inr rfl
    · rw [decide_eq_true (show (3 : Int) ≤ (f.length : Int) by omega), if_pos rfl, bind_ok, decide_eq_false (show ¬ (f.length : Int) ≤ 5 by omega)]
      exact .inr rfl
  · rw [decide_eq_false (show ¬ (3 : Int) ≤ (f.length : Int) by omega)]
    exact .inr rfl
theorem sq_mono {a b : Int} (h0 : 0 ≤ a) (h : a ≤ b) : a * a ≤ b * b := Int.mul_le_mul h h h0 (by omega)
theorem sq_lt {a b : Int} (h0 : 0 ≤ b) (h : a * a < b * b) : a < b := by
  by_cases c : a < b
  · exact c
  · exact absurd (sq_mono h0 (show b ≤ a by omega)) (by omega)
theorem root_ok {m B : Int} (h0 : 0 ≤ m) (hB : m < B * B) (hB0 : 0 < B) (hB2 : (2 * B).natAbs.log2 < 400000) : ∃ r, m_root m = ok r ∧ 0 ≤ r ∧ r < B ∧ r * r ≤ m ∧ m < (r + 1) * (r + 1) := by
  have small : ∀ x : Int, 0 ≤ x → x ≤ 2 * B → pmul x x = ok (x * x) := fun x h1 h2 => by
    refine grd_pos (.inr ?_) _
    have := log2_le (show x.natAbs ≤ (2 * B).natAbs by omega)
    omega
  unfold m_root
  obtain ⟨high, e1, ⟨p1, p2⟩, q1⟩ := whileM_inv (t := fun (high3 : Int) => (M.bind (pmul high3 high3) fun u4 => ok (decide (u4 ≤ m)))) (b := fun (high3 : Int) => (M.bind (ok (2 * high3)) fun high5 => ok (high5)))
    (fun h => 0 < h ∧ h ≤ 2 * B) (fun h => (2 * B - h).toNat) (fun h ⟨h1, h2⟩ => by
      rw [small h (by omega) h2, bind_ok]
      by_cases c : h * h ≤ m
      · have hb : h < B := sq_lt (by omega) (by omega)
        exact .inr ⟨by rw [decide_eq_true c], 2 * h, rfl, ⟨by omega, by omega⟩, by omega⟩
      · exact .inl (by rw [decide_eq_false c])) (c := 1) ⟨by omega, by omega⟩
  rw [small high (by omega) p2, bind_ok] at q1
  have q1 : m < high * high := by
    by_cases c : high * high ≤ m
    · rw [decide_eq_true c] at q1; cases q1
    · omega
  obtain ⟨s, e2, ⟨r1, r2, r3, r4, r5⟩, q2⟩ := whileM_inv (t := fun (s8 : Int × Int) => (ok (decide (1 < (s8.1 - s8.2))))) (b := fun (s8 : Int × Int) => (M.bind (ok ((s8.2 + s8.1) / 2)) fun middle9 => (M.bind (M.bind (pmul middle9 middle9) fun u10 => ok (decide (u10 ≤ m))) fun z11 => if z11 = true then (M.bind (ok middle9) fun low12 => ok (s8.1, low12)) else (M.bind (ok middle9) fun high13 => ok (high13, s8.2)))))
    (fun s => 0 ≤ s.2 ∧ s.2 < s.1 ∧ s.1 ≤ 2 * B ∧ s.2 * s.2 ≤ m ∧ m < s.1 * s.1) (fun s => (s.1 - s.2).toNat) (fun ⟨hi, lo⟩ ⟨h1, h2, h3, h4, h5⟩ => by
      dsimp only at h1 h2 h3 h4 h5 ⊢
      by_cases c : 1 < hi - lo
      · right
        refine ⟨by rw [decide_eq_true c], ?_⟩
        have m1 : lo < (lo + hi) / 2 := by omega
        have m2 : (lo + hi) / 2 < hi := by omega
        rw [bind_ok, small _ (by omega) (by omega), bind_ok, bind_ok]
        by_cases d : (lo + hi) / 2 * ((lo + hi) / 2) ≤ m
        · rw [if_pos (decide_eq_true d)]
          exact ⟨_, rfl, ⟨by dsimp only; omega, m2, h3, d, h5⟩, by dsimp only; omega⟩
        · rw [if_neg (by simpa using d)]
          exact ⟨_, rfl, ⟨h1, m1, by dsimp only; omega, h4, by dsimp only; omega⟩, by dsimp only; omega⟩
      · exact .inl (by rw [decide_eq_false c])) (c := (high, 0)) ⟨by omega, p1, p2, by omega, q1⟩
  refine ⟨s.2, ?_, r1, sq_lt (by omega) (by omega), r4, ?_⟩
  · rw [bind_ok, e1, bind_ok, bind_ok, e2, bind_ok]
  · have : ¬ 1 < s.1 - s.2 := fun z => by rw [decide_eq_true z] at q2; cases q2
    have : s.1 = s.2 + 1 := by omega
    rw [← this]; exact r5
theorem natAbs_mul_le {x y : Int} {A B : Nat} (hx : x.natAbs ≤ A) (hy : y.natAbs ≤ B) : (x * y).natAbs ≤ A * B := by rw [Int.natAbs_mul]; exact Nat.mul_le_mul hx hy
theorem pair_by_tot {a b c d z : Int} (ha : a.natAbs ≤ 499) (hb : b.natAbs ≤ 499) (hc : c.natAbs ≤ 499) (hd : d.natAbs ≤ 499) (hz : z ≠ 0) (hz2 : z.natAbs ≤ 499) : Tot (m_pair_by [a, b, c, d, 1] z) fun _ => True := by
  unfold m_pair_by
  simp only [bind_bind, bind_okS, pg0, pg1, pg2, pg3]
  have hzd := natAbs_mul_le hz2 hd
  have hdd := natAbs_mul_le hd hd
  refine .bind (.pdiv0 hz (log2_small (by omega))) fun w hw => ?_
  have hw2 := natAbs_fdiv_le a z
  rw [← hw] at hw2
  refine .ite (fun h => ?_) (fun h => ?_)
  · have hne : w - z ≠ 0 := by
      intro k
      have : z = w := by omega
      simp [this] at h
    refine .bind (.pmul_l (by omega)) fun u hu => ?_
    rw [← hu] at hzd
    refine .bind (.pmod0 hne) fun _ _ => .ite (fun _ => .ok trivial) fun _ => ?_
    refine .bind (.pdiv0 hne (log2_small (by omega))) fun q hq => ?_
    have hq2 := natAbs_fdiv_le (b - u) (w - z)
    rw [← hq] at hq2
    refine .bind (.pmul_l (by omega)) fun _ _ => .ite (fun _ => .ok trivial) fun _ => ?_
    rw [psz_ok (by simp), bind_ok]
    exact .ok trivial
  · refine .bind (.pmul_l (by omega)) fun u hu => .ite (fun _ => .ok trivial) fun _ => ?_
    refine .bind (.pmul_l (by omega)) fun v hv => ?_
    rw [← hv] at hdd
    have hroot : ∀ s : Int, 0 ≤ s → s.natAbs ≤ 400000 → ∃ r, m_root s = ok r ∧ r.natAbs ≤ 1000 := fun s h0 h1 => by
      obtain ⟨r, e, r0, r1, _⟩ := root_ok (m := s) (B := 1000) h0 (by omega) (by omega) (by decide +kernel)
      exact ⟨r, e, by omega⟩
    by_cases hs : v - 4 * (c - z - w) < 0
    · rw [if_pos (decide_eq_true hs), bind_ok, if_pos rfl]
      exact .ok trivial
    · rw [if_neg (by simpa using hs)]
      obtain ⟨r, er, hr⟩ := hroot (v - 4 * (c - z - w)) (by omega) (by omega)
      simp only [er, bind_okS, bind_bind]
      refine .bind (.pmul_l (by omega)) fun _ _ => .ite (fun _ => .ok trivial) fun _ => ?_
      rw [psz_ok (by simp), bind_ok]
      exact .ok trivial
theorem poly_parted_tot {f g : List Int} {d : Nat} (hg : g.length = d + 1) (hb : ∀ x ∈ g, x.natAbs < 18446744073709551616) (hf : f.length ≤ 100000) (hd : d ≤ 100000) : Tot (m_poly_parted f g) fun r => r.1.length ≤ f.length ∧ r.2.length ≤ d := by
  unfold m_poly_parted
  have hdeg : (g.length : Int) - 1 = (d : Int) := by omega
  simp only [bind_okS, hdeg]
  refine .bind (P := fun s : List Int × List Int => s.1.length = f.length ∧ s.2.length ≤ f.length) ?_ fun s hs => ?_
  · rw [prangeD_ok (by omega) (by omega), bind_ok]
    refine (Tot.loopMi (fun i (s : List Int × List Int) => s.1.length = f.length ∧ s.2.length = i) ⟨rfl, rfl⟩ fun i s x hx hs => ?_).mono fun s hs => ⟨hs.1, by rw [hs.2]; unfold rangeD; rw [List.length_map, List.length_range]; omega⟩
    rw [rangeD_get] at hx
    by_cases c : i < ((f.length : Int) - 1 - (d : Int) - -1).toNat
    · rw [if_pos c] at hx
      have hx := Option.some.inj hx
      refine .bind (.pget (by omega) (by omega)) fun part _ => ?_
      refine .bind (.papp (by omega)) fun q hq => ?_
      refine .bind (P := fun l : List Int => l.length = f.length) ?_ fun l hl => .ok ⟨hl, by rw [hq, List.length_append, hs.2]; rfl⟩
      refine .bind (.prangeI (by omega) (by omega)) fun xs hxs => ?_
      subst hxs
      refine .loopM (fun l : List Int => l.length = f.length) hs.1 fun l j hj hl => ?_
      have hj := mem_rangeL hj
      refine .bind (P := fun l : List Int => l.length = f.length) ?_ fun l hl => .ok hl
      refine .bind (.pget (by omega) (by omega)) fun u _ => ?_
      refine .bind (P := fun _ => True) (.bind (.pget (xs := g) (by omega) (by omega)) fun v hv => (Tot.pmul_r (hb v hv)).mono fun _ _ => trivial) fun v _ => ?_
      exact (Tot.pset (by omega) (by omega)).mono fun l' h => by rw [h.2, hl]
    · rw [if_neg c] at hx; cases hx
  · rw [cut_ok, bind_ok, cut_ok, bind_ok, cutL_take]
    refine .ok ⟨?_, ?_⟩
    · have := cutP_len (List.reverse s.2)
      rw [List.length_reverse] at this
      dsimp only
      omega
    · have := cutP_len (s.1.take d)
      rw [List.length_take] at this
      dsimp only
      omega
theorem Gd.cases {f : List Int} (h : Gd f) : (∃ a b, f = [a, b, 1] ∧ a.natAbs ≤ 499 ∧ b.natAbs ≤ 499) ∨ (∃ a b c, f = [a, b, c, 1] ∧ a.natAbs ≤ 499 ∧ b.natAbs ≤ 499 ∧ c.natAbs ≤ 499) ∨
    ∃ a b c d, f = [a, b, c, d, 1] ∧ a.natAbs ≤ 499 ∧ b.natAbs ≤ 499 ∧ c.natAbs ≤ 499 ∧ d.natAbs ≤ 499 := by
  obtain ⟨g, rfl, h2, h4, hb⟩ := h
  match g, h2, h4, hb with
  | [a, b], _, _, hb => exact .inl ⟨a, b, rfl, hb a (by simp), hb b (by simp)⟩
  | [a, b, c], _, _, hb => exact .inr (.inl ⟨a, b, c, rfl, hb a (by simp), hb b (by simp), hb c (by simp)⟩)
  | [a, b, c, d], _, _, hb => exact .inr (.inr ⟨a, b, c, d, rfl, hb a (by simp), hb b (by simp), hb c (by simp), hb d (by simp)⟩)
theorem unO_some {α : Type} (a : α) : unO (some a) = ok a := rfl
theorem measure_tot {f : List Int} (h : Gd f) : ∃ v, m_measure f = ok v := by
  rcases h.cases with ⟨a, b, rfl, ha, hb⟩ | ⟨a, b, c, rfl, ha, hb, hc⟩ | ⟨a, b, c, d, rfl, ha, hb, hc, hd⟩
  · exact ⟨_, meas2 ha hb⟩
  · exact ⟨_, meas3 ha hb hc⟩
  · exact ⟨_, meas4 ha hb hc hd⟩
theorem whole_root_sm {f : List Int} (h : Gd f) : Tot (m_whole_root f) fun r => ∀ z, r = some z → z.natAbs ≤ 499 := by
  have hm := h.mem
  unfold m_whole_root
  have hl := h.len
  obtain ⟨x, e, hx⟩ := Tot.pget (xs := f) (x := 0) (by omega) (by omega)
  have hx' := hm x hx
  simp only [bind_bind, bind_okS, e]
  refine .ite (fun _ => .ok fun z hz => by cases hz; decide) fun hne => ?_
  refine .sq (I := fun _ => True) (A := fun r => ∀ z, r = some z → z.natAbs ≤ 499) (.bind (.prange2 (by omega) (by omega)) fun xs hxs => .loopF _ _ trivial fun c s hs _ => ?_) (fun _ _ => .ok fun z hz => nomatch hz) fun _ h => h
  have hs' := hxs s hs
  have at_ok : ∀ z : Int, z.natAbs ≤ 500 → m_poly_at f z = ok (ev f z) := fun z hz => by
    rw [e_poly_at]
    exact horner_val (a := 9) (m := 9) h.sm (Sm.of hz) (by omega)
  refine .bind (.pmod (by omega)) fun u _ => .ite (fun _ => ?_) fun _ => .ok trivial
  rw [at_ok s (by omega), bind_ok]
  refine .ite (fun _ => .ok fun z hz => by cases hz; omega) fun _ => ?_
  rw [at_ok (-s) (by omega), bind_ok]
  exact .ite (fun _ => .ok fun z hz => by cases hz; omega) fun _ => .ok trivial
theorem apart_tot {f : List Int} (h : Gd f) (hc : m_check_poly f = ok ()) : Tot (m_apart f) fun _ => True := by
  unfold m_apart
  have hl := h.len
  rw [hc, bind_ok, bind_ok]
  refine .bind (whole_root_sm h) fun at2 hat => ?_
  rw [bind_ok]
  cases at2 with
  | some z =>
    have hz := hat z rfl
    rw [if_pos (show (some z).isSome = true from rfl)]
    simp only [unO_some, bind_okS, bind_bind, psz_ok (show [-z, 1].length ≤ 16777216 by simp)]
    refine .bind (poly_parted_tot (d := 1) rfl (fun x hx => ?_) (by omega) (by omega)) fun r _ => .ok trivial
    simp only [List.mem_cons, List.not_mem_nil, or_false] at hx
    rcases hx with rfl | rfl
    · omega
    · decide
  | none =>
    rw [if_neg (by decide)]
    refine .sq (I := fun _ => True) (A := fun _ => True) ?_ (fun _ _ => .ok trivial) fun _ _ => trivial
    rw [bind_ok]
    refine .ite (fun h5 => ?_) fun _ => .ok trivial
    have h5 : f.length = 5 := by have := of_decide_eq_true h5; omega
    rcases h.cases with ⟨a, b, rfl, ha, hb⟩ | ⟨a, b, c, rfl, ha, hb, hc⟩ | ⟨a, b, c, d, rfl, ha, hb, hc, hd⟩
    · simp at h5
    · simp at h5
    simp only [pg0, bind_okS]
    refine .sq (I := fun _ => True) (A := fun _ => True) ?_ (fun _ _ => .ok trivial) fun _ _ => trivial
    refine .bind (.prange2 (by omega) (by omega)) fun xs hxs => .loopF _ _ trivial fun _ s hs _ => ?_
    have hs' := hxs s hs
    refine .bind (.bind (.pmod (by omega)) fun _ _ => .ok (P := fun _ => True) trivial) fun _ _ => .ite (fun _ => ?_) fun _ => .ok trivial
    refine .sq (I := fun _ => True) (A := fun _ => True) ?_ (fun _ _ => .ok trivial) fun _ _ => trivial
    refine .loopF _ _ trivial fun _ t ht _ => ?_
    have ht' : t ≠ 0 ∧ t.natAbs ≤ 499 := by
      simp only [List.mem_cons, List.not_mem_nil, or_false] at ht
      rcases ht with rfl | rfl <;> omega
    refine .bind (pair_by_tot ha hb hc hd ht'.1 ht'.2) fun o _ => ?_
    exact .ite (fun _ => .ok trivial) fun _ => .ok trivial
end T
set_option maxRecDepth 100000
set_option maxHeartbeats 1000000
namespace T
open PySem PySem.Spec PyProof.Rows L2
theorem primes_same : c_PRIMES = primesL := rfl
theorem pr_bd {p : Int} (h : p ∈ primesL) : 1 < p ∧ p < 200 := ⟨(primes_fact p h).1, (primes_fact p h).2.1⟩
theorem mod_at_tot {f : List Int} {x p : Int} (hp : 0 < p) (hx : x.natAbs < 18446744073709551616) : Tot (m_mod_at f x p) fun _ => True := by
  unfold m_mod_at
  simp only [bind_okS, bind_bind]
  refine .bind (P := fun _ => True) (.loopM (fun _ => True) trivial fun c y _ _ => ?_) fun _ _ => .ok trivial
  exact .bind (.pmul_r hx) fun _ _ => .bind (.pmod hp) fun _ _ => .ok trivial
/-- a step of the split: a root is parted off -/
theorem part_root {f : List Int} {low p : Int} (h : p ∈ primesL) (hl : 0 ≤ low) (hl2 : low < p) (hc : Cut f) (hr : Red p f) (h1 : 1 < f.length) (h5 : f.length ≤ 1000) :
    Tot (m_mod_parted f [low, 1] p) fun r => Cut r.1 ∧ Red p r.1 ∧ r.1.length < f.length := by
  obtain ⟨p1, p2⟩ := pr_bd h
  have hG : modP p [low, 1] = [low, 1] := by
    refine modP_eq (by omega) (.inr ⟨1, [low], rfl, by decide⟩) (Red.of (by omega) fun x hx => ?_) (CgP.refl _ _)
    simp only [List.mem_cons, List.not_mem_nil, or_false] at hx
    rcases hx with rfl | rfl <;> omega
  have hc1 : co [low, 1] 1 = 1 := rfl
  obtain ⟨Q, R, e, cQ, cR, rQ, rR, lR, lQ, eq⟩ := mod_parted_ok (f := f) (g := [low, 1]) (G := [low, 1]) (d := 1) p1 (by omega) hG rfl (by
    rw [hc1, Int.emod_eq_of_lt (by decide) p1]
    exact fun d h1 _ => h1) (by omega) (by show 2 ≤ 100000; decide)
  refine ⟨(Q, R), e, cQ, rQ, ?_⟩
  dsimp only
  by_cases hq : Q.length < f.length
  · exact hq
  · exfalso
    have hlen : Q.length = f.length := by omega
    have hne : Q ≠ [] := by intro z; rw [z] at hlen; simp at hlen; omega
    have top := mulP_top [low, 1] (by show 0 < 2; decide) Q (by omega)
    have e1 : Q.length + ([low, 1] : List Int).length - 2 = f.length := by rw [hlen]; simp
    rw [e1] at top
    have hcong := eq f.length
    rw [addP_co, top, co_out (xs := f) (Nat.le_refl _), co_out (xs := R) (by omega), Int.add_zero] at hcong
    have hlast : co [low, 1] (([low, 1] : List Int).length - 1) = 1 := rfl
    rw [hlast, Int.mul_one, hlen] at hcong
    have hz := cQ.last hne
    rw [hlen] at hz
    have := hcong.small (by omega) (by omega) (rQ _).1 (rQ _).2
    exact hz this.symm
/-- a factor as it is told -/
def Fac (p : Int) (g : List Int) : Prop := 2 ≤ g.length ∧ g.length ≤ 5 ∧ ∀ x ∈ g, 0 ≤ x ∧ x < p
theorem pair_of_tot {f : List Int} {p : Int} (h : p ∈ primesL) (hr : Red p f) (h5 : f.length = 5) : Tot (m_pair_of f p) fun o => ∀ l, o = some l → ∃ x y, l = [x, y] ∧ x.length = 3 ∧ y.length = 3 ∧ Fac p x ∧ Fac p y := by
  obtain ⟨p1, p2⟩ := pr_bd h
  match f, h5, hr with
  | [a, b, c, d, e], _, hr =>
  have hm := hr.mem
  have ha := hm a (by simp)
  have hb := hm b (by simp)
  have hc := hm c (by simp)
  have hd := hm d (by simp)
  unfold m_pair_of
  rw [show asRec4 (cutL [a, b, c, d, e] none (some 4)) = ok (a, b, c, d) from rfl, bind_ok]
  have tn : ∀ x : Int, x % p ≠ 0 → ∃ t, m_turned x p = ok t ∧ 0 ≤ t ∧ t < p := fun x hx => by
    obtain ⟨t, e, t0, t1, _⟩ := turned_ok (a := x) (p := p) p1 (by omega) ((isP_of h).2.2 x hx)
    exact ⟨t, e, t0, t1⟩
  refine .sq (I := fun _ => True) (A := fun o : Option (List (List Int)) => ∀ l, o = some l → ∃ x y, l = [x, y] ∧ x.length = 3 ∧ y.length = 3 ∧ Fac p x ∧ Fac p y) ?_ (fun _ _ => .ok fun l hl => nomatch hl) fun _ h => h
  refine .bind (.prange2 (by omega) (by omega)) fun xs hxs => .loopF _ _ trivial fun _ z hz _ => ?_
  have hz' := hxs z hz
  have fin : ∀ w x y : Int, 0 ≤ w → w < p → 0 ≤ x → x < p → 0 ≤ y → y < p → ∀ l, some [[z, w, 1], [x, y, 1]] = some l → ∃ x y, l = [x, y] ∧ x.length = 3 ∧ y.length = 3 ∧ Fac p x ∧ Fac p y := fun w x y h1 h2 h3 h4 h5 h6 l hl => by
    cases hl
    refine ⟨_, _, rfl, rfl, rfl, ⟨by simp, by simp, fun q hq => ?_⟩, ⟨by simp, by simp, fun q hq => ?_⟩⟩
    · simp only [List.mem_cons, List.not_mem_nil, or_false] at hq
      rcases hq with rfl | rfl | rfl <;> omega
    · simp only [List.mem_cons, List.not_mem_nil, or_false] at hq
      rcases hq with rfl | rfl | rfl <;> omega
  obtain ⟨t, et, t0, t1⟩ := tn z (by rw [Int.emod_eq_of_lt (by omega) (by omega)]; omega)
  simp only [bind_bind, bind_okS, et]
  refine .bind (.pmul_l (by omega)) fun u _ => .bind (.pmod (by omega)) fun v hv => ?_
  refine .ite (fun hne => ?_) fun _ => ?_
  · have hvz : (v - z) % p ≠ 0 := by
      have hne' : z ≠ v := by intro k; simp [k] at hne
      intro k
      have := Int.emod_emod_of_dvd
      obtain ⟨q, hq⟩ := Int.dvd_of_emod_eq_zero k
      have h1 : q < 1 := by
        by_cases c : q < 1
        · exact c
        · have : p * 1 ≤ p * q := Int.mul_le_mul_of_nonneg_left (by omega) (by omega)
          omega
      have h2 : -1 < q := by
        by_cases c : -1 < q
        · exact c
        · have : p * q ≤ p * (-1) := Int.mul_le_mul_of_nonneg_left (by omega) (by omega)
          omega
      have : q = 0 := by omega
      subst this
      omega
    obtain ⟨t', et', t0', t1'⟩ := tn (v - z) hvz
    refine .bind (.pmul_l (by omega)) fun _ _ => ?_
    rw [et', bind_ok]
    refine .bind (.pmul_r (by omega)) fun _ _ => .bind (.pmod (by omega)) fun w hw => ?_
    refine .bind (.pmul_l (by omega)) fun _ _ => .bind (.pmod (by omega)) fun _ _ => .ite (fun _ => ?_) fun _ => .ok trivial
    refine .bind (.pmod (by omega)) fun y hy => ?_
    rw [psz_ok (by simp), bind_ok, psz_ok (by simp), bind_ok]
    exact .ok (fin w v y hw.2.1 hw.2.2 hv.2.1 hv.2.2 hy.2.1 hy.2.2)
  · refine .bind (.pmul_l (by omega)) fun _ _ => .bind (.pmod (by omega)) fun _ _ => .ite (fun _ => ?_) fun _ => .ok trivial
    refine .sq (I := fun _ => True) (A := fun o : Option (List (List Int)) => ∀ l, o = some l → ∃ x y, l = [x, y] ∧ x.length = 3 ∧ y.length = 3 ∧ Fac p x ∧ Fac p y) ?_ (fun _ _ => .ok trivial) fun _ h => h
    refine .bind (.prangeI (by omega) (by omega)) fun ys hys => .loopF _ _ trivial fun _ w hw _ => ?_
    subst hys
    have hw := mem_rangeL hw
    refine .bind (.pmul_l (by omega)) fun _ _ => .bind (.pmod (by omega)) fun _ _ => .ite (fun _ => ?_) fun _ => .ok trivial
    refine .bind (.pmod (by omega)) fun y hy => ?_
    rw [psz_ok (by simp), bind_ok, psz_ok (by simp), bind_ok]
    exact .ok (fin w v y (by omega) (by omega) hv.2.1 hv.2.2 hy.2.1 hy.2.2)
theorem sortOk_of {xs : List (List Int)} {d : Nat} (h64 : xs.length < 64) (hd : 1 ≤ d) (hne : xs ≠ []) (hall : ∀ x ∈ xs, x.length = d ∧ ∀ m ∈ x, 0 ≤ m ∧ m < 1000) : sortOk xs = true := by
  cases xs with
  | nil => exact absurd rfl hne
  | cons y ys =>
    have hy : y.length = d := (hall y List.mem_cons_self).1
    have e : ((y :: ys).headD [0]).length = d := hy
    unfold sortOk
    refine Bool.and_eq_true_iff.mpr ⟨Bool.and_eq_true_iff.mpr ⟨decide_eq_true h64, decide_eq_true (by omega)⟩, List.all_eq_true.mpr fun x hx => Bool.and_eq_true_iff.mpr ⟨decide_eq_true ((hall x hx).1.trans e.symm), List.all_eq_true.mpr fun m hm => ?_⟩⟩
    exact Bool.and_eq_true_iff.mpr ⟨decide_eq_true ((hall x hx).2 m hm).1, decide_eq_true ((hall x hx).2 m hm).2⟩
theorem sortOk_pair {p : Int} {x y : List Int} (h2 : p < 200) (hx : x.length = 3) (hy : y.length = 3) (fx : Fac p x) (fy : Fac p y) : sortOk [x, y] = true := by
  refine sortOk_of (d := 3) (by show 2 < 64; decide) (by decide) (by simp) fun z hz => ?_
  simp only [List.mem_cons, List.not_mem_nil, or_false] at hz
  rcases hz with rfl | rfl
  · exact ⟨hx, fun m hm => ⟨(fx.2.2 m hm).1, by have := (fx.2.2 m hm).2; omega⟩⟩
  · exact ⟨hy, fun m hm => ⟨(fy.2.2 m hm).1, by have := (fy.2.2 m hm).2; omega⟩⟩
theorem sortT_perm (xs : List (List Int)) : (sortT xs).Perm xs := List.mergeSort_perm _ _
def Parts (p : Int) (n : Nat) (l : List (List Int × Int)) : Prop := l.length ≤ n ∧ ∀ g ∈ l, Fac p g.1
theorem rootless_tot {f : List Int} {p : Int} (h : p ∈ primesL) (hr : Red p f) (h2 : 2 ≤ f.length) (h5 : f.length ≤ 5) : Tot (m_rootless f p) (Parts p 2) := by
  obtain ⟨p1, p2⟩ := pr_bd h
  unfold m_rootless
  have ff : Fac p f := ⟨h2, h5, hr.mem⟩
  rw [bind_ok]
  refine .bind (P := fun o : Option (List (List Int)) => ∀ l, o = some l → ∃ x y, l = [x, y] ∧ x.length = 3 ∧ y.length = 3 ∧ Fac p x ∧ Fac p y) ?_ fun o ho => ?_
  · rw [bind_ok]
    refine .ite (fun h5 => ?_) fun _ => .ok fun l hl => nomatch hl
    rw [bind_ret]
    exact pair_of_tot h hr (by have := of_decide_eq_true h5; omega)
  · rw [bind_ok]
    cases o with
    | none => exact .ok ⟨by simp, fun g hg => by simp at hg; subst hg; exact ff⟩
    | some l =>
      obtain ⟨x, y, rfl, hx, hy, fx, fy⟩ := ho _ rfl
      rw [if_neg (show ¬ (some [x, y]).isNone = true from fun z => nomatch z)]
      simp only [unO_some, bind_okS, pg0, pg1]
      refine .ite (fun _ => ?_) fun _ => ?_
      · rw [psz_ok (by simp)]
        exact .ok ⟨by simp, fun g hg => by simp at hg; subst hg; exact fx⟩
      · unfold psortT
        rw [grd_pos (sortOk_pair p2 hx hy fx fy), bind_ok]
        have hp := sortT_perm [x, y]
        have hlen : (sortT [x, y]).length = 2 := hp.length_eq
        refine (Tot.mapC (P := fun g : List Int × Int => Fac p g.1) (fun g hg => .ok ?_) (by omega)).mono fun l hl => ⟨by omega, hl.2⟩
        have := hp.subset hg
        simp only [List.mem_cons, List.not_mem_nil, or_false] at this
        rcases this with rfl | rfl
        · exact fx
        · exact fy
theorem mem_primes {p : Int} (h : p ∈ primesL) : (!decide (p ∈ c_PRIMES)) = false := by rw [primes_same, decide_eq_true h]; rfl
theorem split_by_tot {f : List Int} {p : Int} (h : p ∈ primesL) (hf : f.length ≤ 5) : Tot (m_split_by f p) (Parts p 300) := by
  obtain ⟨p1, p2⟩ := pr_bd h
  unfold m_split_by
  rw [mem_primes h, bind_ok, if_neg (by decide), mod_poly_ok (by omega) (by omega), bind_ok, bind_ok]
  have l0 := modP_len p f
  refine .bind (P := fun s : List Int × List (List Int × Int) => (Cut s.1 ∧ Red p s.1 ∧ s.1.length ≤ 5) ∧ Parts p 200 s.2) ?_ fun s hs => ?_
  · refine .bind (.prangeI (by omega) (by omega)) fun xs hxs => ?_
    subst hxs
    refine (Tot.loopMi (fun i (s : List Int × List (List Int × Int)) => (Cut s.1 ∧ Red p s.1 ∧ s.1.length ≤ 5) ∧ Parts p i s.2) (c := (modP p f, ([] : List (List Int × Int)))) ⟨⟨modP_cut p f, modP_red (by omega) f, (by show (modP p f).length ≤ 5; omega)⟩, (by show 0 ≤ 0; omega), (fun g hg => nomatch hg)⟩ fun i s low hlow hs => ?_).mono fun s hs => ⟨hs.1, by have := hs.2.1; rw [rangeL_len] at this; omega, hs.2.2⟩
    have hi := (List.getElem?_eq_some_iff.mp hlow).1
    rw [rangeL_len] at hi
    have hlow := mem_rangeL (List.mem_of_getElem? hlow)
    obtain ⟨⟨c0, r0, l0⟩, n0, g0⟩ := hs
    rw [bind_ok]
    refine .bind (Tot.whileM (fun s : List Int × Int => Cut s.1 ∧ Red p s.1 ∧ s.1.length ≤ 5) (fun s => s.1.length) ⟨c0, r0, l0⟩ fun c hc => ?_) fun c hc => ?_
    · rw [bind_ok]
      by_cases hl1 : 1 < c.1.length
      · rw [if_pos (decide_eq_true (show (1 : Int) < (c.1.length : Int) by omega))]
        refine (Tot.bind (mod_at_tot (by omega) (by omega)) fun v _ => .ok (P := fun _ => True) trivial).mono fun z _ _ => ?_
        simp only [bind_bind, bind_okS]
        refine .bind (part_root h (by omega) (by omega) hc.1 hc.2.1 hl1 (by omega)) fun r hr => ?_
        exact .ok ⟨⟨hr.1, hr.2.1, by have := hr.2.2; dsimp only; omega⟩, hr.2.2⟩
      · rw [decide_eq_false (show ¬ (1 : Int) < (c.1.length : Int) by omega), if_neg (by decide)]
        exact .ok fun z => nomatch z
    · rw [bind_ok]
      refine .ite (fun _ => ?_) fun _ => .ok ⟨hc.1, Nat.le_succ_of_le n0, g0⟩
      refine .bind (.papp (by omega)) fun q hq => .ok ⟨hc.1, ?_, fun g hg => ?_⟩
      · dsimp only; rw [hq, List.length_append]; simp only [List.length_cons, List.length_nil]; omega
      · dsimp only at hg
        rw [hq] at hg
        rcases List.mem_append.mp hg with z | z
        · exact g0 g z
        · have : g = ([low, 1], c.2) := by simpa using z
          subst this
          refine ⟨by show 2 ≤ 2; omega, by show 2 ≤ 5; omega, fun x hx => ?_⟩
          simp only [List.mem_cons, List.not_mem_nil, or_false] at hx
          rcases hx with rfl | rfl <;> omega
  · obtain ⟨⟨c0, r0, l0⟩, n0, g0⟩ := hs
    rw [bind_ret, bind_ok]
    refine .ite (fun h1 => ?_) fun _ => .ok ⟨by omega, g0⟩
    have h1 := of_decide_eq_true h1
    rw [bind_ret]
    refine .bind (rootless_tot h r0 (by omega) l0) fun l hl => ?_
    refine (Tot.pcat (by have := hl.1; omega)).mono fun q hq => ?_
    rw [hq]
    refine ⟨by rw [List.length_append]; have := hl.1; omega, fun g hg => ?_⟩
    rcases List.mem_append.mp hg with z | z
    · exact g0 g z
    · exact hl.2 g z
theorem parts_of_tot {f : List Int} {p : Int} (h : p ∈ primesL) (hf : f.length ≤ 5) : Tot (m_parts_of f p) fun l => l.length ≤ 300 ∧ (∀ g ∈ l, Fac p g.1) ∧ ∀ g ∈ l, g.2.2.length ≤ 100000 := by
  obtain ⟨p1, p2⟩ := pr_bd h
  unfold m_parts_of
  rw [bind_ok, bind_ret]
  refine .bind (split_by_tot h hf) fun parts hp => ?_
  refine (Tot.loopMi (fun i (l : List (List Int × Int × List Int)) => l.length = i ∧ (∀ g ∈ l, Fac p g.1) ∧ ∀ g ∈ l, g.2.2.length ≤ 100000) (c := ([] : List (List Int × Int × List Int))) ⟨rfl, (fun g hg => nomatch hg), (fun g hg => nomatch hg)⟩ fun i l x hx hl => ?_).mono fun l hl => ⟨by rw [hl.1]; exact hp.1, hl.2⟩
  have hi := (List.getElem?_eq_some_iff.mp hx).1
  have fx := hp.2 x (List.mem_of_getElem? hx)
  have hn := hp.1
  simp only [bind_bind, bind_okS, bind_ret]
  refine .bind (poly_parted_tot (d := x.1.length - 1) (by have := fx.1; omega) (fun y hy => by have := fx.2.2 y hy; omega) (by omega) (by have := fx.2.1; omega)) fun r hr => ?_
  have hr2 := hr.2
  have hx5 := fx.2.1
  refine (Tot.papp (by omega)).mono fun q hq => ?_
  rw [hq]
  refine ⟨by rw [List.length_append, hl.1]; rfl, fun g hg => ?_, fun g hg => ?_⟩
  · rcases List.mem_append.mp hg with z | z
    · exact hl.2.1 g z
    · simp only [List.mem_cons, List.not_mem_nil, or_false] at z
      rw [z]; exact fx
  · rcases List.mem_append.mp hg with z | z
    · exact hl.2.2 g z
    · simp only [List.mem_cons, List.not_mem_nil, or_false] at z
      rw [z]; dsimp only; omega
theorem square_primes_tot (size : Int) : Tot (m_square_primes size) fun l => ∀ p ∈ l, p ∈ primesL := by
  unfold m_square_primes
  rw [show m_small_primes = ok primesL from rfl, bind_ok]
  refine ⟨_, compL_ok (p := fun p => decide (size.fmod (p * p) = 0)) (g := fun p => p) (fun p hp => ?_) (fun _ _ _ => rfl) (by rw [sizeLineE]; decide), fun p hp => ?_⟩
  · obtain ⟨p1, p2⟩ := pr_bd hp
    have hne : p * p ≠ 0 := by
      intro z
      rcases Int.mul_eq_zero.mp z with z | z <;> omega
    simp only [bind_bind]
    rw [pmul_left (by rw [pow64]; omega), bind_ok, pmod_ok hne, bind_ok]
  · rw [List.map_id'] at hp
    exact (List.mem_filter.mp hp).1
theorem divides_all_tot {m : Int} {row : List Int} (hm : m ≠ 0) (hl : row.length ≤ 100000) : Tot (m_divides_all m row) fun _ => True := by
  unfold m_divides_all
  exact .bind (Tot.mapC (P := fun _ => True) (fun x _ => .bind (.pmod0 hm) fun _ _ => .ok trivial) (by omega)) fun _ _ => .ok trivial
theorem outside_tot {f : List Int} (h : Gd f) (size : Int) : Tot (m_outside f size) fun _ => True := by
  unfold m_outside
  have hl := h.len
  refine .sq (I := fun _ => True) (A := fun _ => True) (.bind (square_primes_tot size) fun ps hps => .loopF _ _ trivial fun _ p hp _ => ?_) (fun _ _ => .ok trivial) fun _ _ => trivial
  have hp := hps p hp
  obtain ⟨p1, p2⟩ := pr_bd hp
  refine .sq (I := fun _ => True) (A := fun _ => True) (.bind (parts_of_tot hp hl.2) fun parts hparts => .loopF _ _ trivial fun _ x hx _ => ?_) (fun _ _ => .ok trivial) fun _ _ => trivial
  have fx := hparts.2.1 x hx
  have hne : p * p ≠ 0 := by
    intro z
    rcases Int.mul_eq_zero.mp z with z | z <;> omega
  refine .bind (P := fun _ => True) ?_ fun z _ => .ite (fun _ => ?_) fun _ => .ok trivial
  · rw [bind_ok]
    refine .ite (fun _ => ?_) fun _ => .ok trivial
    rw [pmul_left (by rw [pow64]; omega), bind_ok]
    exact divides_all_tot hne (hparts.2.2 x hx)
  · refine .bind (P := fun l : List Int => l.length ≤ 5) ?_ fun row hrow => .bind (P := fun _ => True) ?_ fun r _ => .ok trivial
    · simp only [bind_bind, bind_okS]
      refine .bind (poly_parted_tot (d := x.1.length - 1) (by have := fx.1; omega) (fun y hy => by have := fx.2.2 y hy; omega) (by omega) (by have := fx.2.1; omega)) fun r hr => ?_
      have hr1 := hr.1
      exact (Tot.mapC (P := fun _ => True) (fun y _ => (Tot.pmod (by omega)).mono fun _ _ => trivial) (by omega)).mono fun l hl' => by rw [hl'.1]; omega
    · refine (Tot.whileM (fun l : List Int => l.length ≤ 5) (fun l => 5 - l.length) hrow fun c hc => .ok fun hz => ?_).mono fun _ _ => trivial
      have hz := of_decide_eq_true hz
      refine .bind (.papp (by omega)) fun q hq => .ok ⟨?_, ?_⟩
      · rw [hq, List.length_append]; simp only [List.length_cons, List.length_nil]; omega
      · rw [hq, List.length_append]; simp only [List.length_cons, List.length_nil]; omega
/-- a ring that was made -/
structure RgOk (r : Rg) : Prop where
  gd : Gd r.1
  deg : r.2.1 = (r.1.length : Int) - 1
  me : m_measure r.1 = ok r.2.2
  sm : r.2.2.natAbs ≤ 39999
theorem Ring_cases (f : List Int) : (∃ r, m_Ring f = ok r ∧ r.1 = f ∧ RgOk r) ∨ ∃ e, m_Ring f = exc e ∧ tbl_RingError.lookup e.cls = some true := by
  unfold m_Ring
  rcases check_cases f with ⟨hc, hg⟩ | hc
  · obtain ⟨o, eo, _⟩ := apart_tot hg hc
    rw [eo, bind_ok, bind_ok]
    cases o with
    | some q =>
      right
      rw [if_pos (show (some q).isSome = true from rfl)]
      exact ⟨_, rfl, (show tbl_RingError.lookup ("FallsApart" : Str) = some true by decide +kernel)⟩
    | none =>
      rw [if_neg (show ¬ (none : Option (List Int × List Int)).isSome = true from fun z => nomatch z), bind_ok]
      obtain ⟨v, ev⟩ := measure_tot hg
      rw [ev, bind_ok, bind_ok]
      by_cases hs : c_GREATEST < (v.natAbs : Int)
      · right
        rw [if_pos (decide_eq_true hs)]
        exact ⟨_, rfl, by decide +kernel⟩
      · rw [if_neg (by simpa using hs), bind_ok]
        obtain ⟨l, el, _⟩ := outside_tot hg v
        rw [el, bind_ok, bind_ok]
        cases l with
        | some q =>
          right
          rw [if_pos (show (some q).isSome = true from rfl)]
          exact ⟨_, rfl, (show tbl_RingError.lookup ("NotWhole" : Str) = some true by decide +kernel)⟩
        | none =>
          left
          rw [if_neg (show ¬ (none : Option (Int × List Int)).isSome = true from fun z => nomatch z), bind_ok, bind_ok, bind_ok, bind_ok]
          have hG : c_GREATEST = 39999 := rfl
          exact ⟨_, rfl, rfl, hg, rfl, ev, by rw [hG] at hs; dsimp only; omega⟩
  · right
    unfold m_apart
    rw [hc, bind_exc, bind_exc, bind_exc]
    exact ⟨_, rfl, by decide +kernel⟩
theorem ring_ok_of {f : List Int} {r : Rg} (h : m_Ring f = ok r) : RgOk r := by
  rcases Ring_cases f with ⟨r', e, _, q⟩ | ⟨e, h2, _⟩
  · rw [e] at h; cases h; exact q
  · rw [h2] at h; cases h
end T
set_option maxRecDepth 100000
set_option maxHeartbeats 1000000
namespace T
open PySem PySem.Spec PyProof.Rows L2
theorem pr_nat {n : Nat} (h : n ≤ 1000000) : prangeI (n : Int) = ok (rangeL 0 n) := prangeI_nat (by
  have e : (2 : Nat) ^ 62 = 4611686018427387904 := by decide
  omega)
noncomputable def m_root_times (poly1 : (List Int)) (row2 : (List Int)) : M (List Int) :=
  (M.bind (pget row2 ((List.length row2 : Int) - 1)) fun last3 => (M.bind (pcat [0] (cutL row2 none (some ((List.length row2 : Int) - 1)))) fun ahead4 => (mapC (fun x5 => (M.bind (pmul last3 x5.2) fun u6 => ok (x5.1 - u6))) (List.zip ahead4 poly1))))
noncomputable def m_poly_table (poly1 : (List Int)) (x2 : (List Int)) : M (List (List Int)) :=
  (M.bind (ok ([] : List (List Int))) fun rows3 => (M.bind (ok x2) fun row4 => (M.bind (M.bind (prangeI (List.length x2 : Int)) fun xs => loopM (fun (s5 : (List (List Int)) × (List Int)) k6 => (M.bind (papp s5.1 s5.2) fun rows7 => (M.bind (m_root_times poly1 s5.2) fun row8 => ok (rows7, row8)))) (rows3, row4) xs) fun s9 => (ok s9.1))))
/-! ### congruence by a polynomial -/
def Cf (f p q : List Int) : Prop := ∃ u : List Int, ∀ t, co p t = co q t + co (mulP u f) t
theorem mulP_nil_l (f : List Int) (t : Nat) : co (mulP [] f) t = 0 := rfl
section
variable {f p q r s : List Int}
theorem Cf.of (h : ∀ t, co p t = co q t) : Cf f p q := ⟨[], fun t => by rw [h, mulP_nil_l]; omega⟩
theorem Cf.refl (f p : List Int) : Cf f p p := .of fun _ => rfl
theorem Cf.symm : Cf f p q → Cf f q p := fun ⟨u, h⟩ => ⟨scaleP (-1) u, fun t => by rw [mulP_scale_l, h]; omega⟩
theorem Cf.trans : Cf f p q → Cf f q r → Cf f p r := fun ⟨u, h⟩ ⟨v, g⟩ => ⟨addP u v, fun t => by rw [mulP_add_l, h, g]; omega⟩
theorem Cf.add : Cf f p q → Cf f r s → Cf f (addP p r) (addP q s) := fun ⟨u, h⟩ ⟨v, g⟩ => ⟨addP u v, fun t => by rw [mulP_add_l, addP_co, addP_co, h, g]; omega⟩
theorem Cf.scale (c : Int) : Cf f p q → Cf f (scaleP c p) (scaleP c q) := fun ⟨u, h⟩ => ⟨scaleP c u, fun t => by rw [mulP_scale_l, scaleP_co, scaleP_co, h, Int.mul_add]⟩
theorem mulP_cons0 (u f : List Int) : ∀ t, co (mulP (0 :: u) f) t = co (0 :: mulP u f) t
  | 0 => by rw [mulP_cons_zero, Int.zero_mul]; rfl
  | t + 1 => by rw [mulP_cons_succ, Int.zero_mul, Int.zero_add, co_succ]
theorem Cf.cons0 : Cf f p q → Cf f (0 :: p) (0 :: q) := fun ⟨u, h⟩ => ⟨0 :: u, fun t => by
  rw [mulP_cons0]
  cases t with
  | zero => rfl
  | succ t => rw [co_succ, co_succ, co_succ, h]⟩
theorem Cf.mul_l (r : List Int) : Cf f p q → Cf f (mulP r p) (mulP r q) := fun ⟨u, h⟩ => ⟨mulP r u, fun t => by
  rw [mulP_assoc, ← mulP_add_r]
  exact mulP_congr_r (fun t => by rw [addP_co, h]) r t⟩
theorem Cf.mul_r (r : List Int) (h : Cf f p q) : Cf f (mulP p r) (mulP q r) := ((Cf.of (mulP_comm p r)).trans (h.mul_l r)).trans (.of (mulP_comm r q))
theorem Cf.mul (h : Cf f p q) (g : Cf f r s) : Cf f (mulP p r) (mulP q s) := (h.mul_r r).trans (g.mul_l q)
/-- one rest for each -/
theorem Cf.uniq {n : Nat} (hf : f.length = n + 1) (h1 : co f n = 1) (hp : ∀ t, n ≤ t → co p t = 0) (hq : ∀ t, n ≤ t → co q t = 0) (h : Cf f p q) : ∀ t, co p t = co q t := by
  obtain ⟨u, h⟩ := h
  have hv : ∀ t, co (mulP (cutP u) f) t = co (mulP u f) t := mulP_congr_l f (cutP_co u)
  by_cases hn : cutP u = []
  · intro t
    rw [h, ← hv, hn, mulP_nil_l]; omega
  · exfalso
    have hpos : 0 < (cutP u).length := List.length_pos_iff.mpr hn
    have top := mulP_top f (by omega) (cutP u) hpos
    have hz := (cutP_cut u).last hn
    rw [hv, show f.length - 1 = n by omega, h1, Int.mul_one] at top
    have k := h ((cutP u).length + f.length - 2)
    rw [hp _ (by omega), hq _ (by omega), top] at k
    omega
theorem Cf.eq {n : Nat} (hf : f.length = n + 1) (h1 : co f n = 1) (hp : p.length = n) (hq : q.length = n) (h : Cf f p q) : p = q :=
  co_ext (hp.trans hq.symm) (h.uniq hf h1 (fun t ht => co_out (by omega)) fun t ht => co_out (by omega))
theorem mulP_one_l (c : Int) (f : List Int) : ∀ t, co (mulP [c] f) t = c * co f t
  | 0 => mulP_cons_zero c [] f
  | t + 1 => by rw [mulP_cons_succ, mulP_nil_l]; omega
end
/-! ### the root's powers times a number -/
theorem zip_map_co {α : Type} (a b : List Int) (g : Int × Int → Int) (n : Nat) (ha : a.length = n) (hb : n ≤ b.length) (t : Nat) : co ((List.zip a b).map g) t = if t < n then g (co a t, co b t) else 0 := by
  by_cases ht : t < n
  · rw [if_pos ht]
    have h1 : t < ((List.zip a b).map g).length := by rw [List.length_map, List.length_zip]; omega
    rw [co_get h1, List.getElem_map, List.getElem_zip, co_get (by omega), co_get (by omega)]
  · rw [if_neg ht, co_out (by rw [List.length_map, List.length_zip]; omega)]
theorem root_times_ok {f row : List Int} {n a b : Nat} (hf : f.length = n + 1) (h1 : co f n = 1) (hr : row.length = n) (hn : 1 ≤ n) (hn2 : n ≤ 1000) (ha : ∀ x ∈ f, Sm a x) (ha2 : a ≤ 60) (hb : ∀ x ∈ row, Sm b x) (hab : a + b < 900000) :
    ∃ r, m_root_times f row = ok r ∧ r.length = n ∧ Cf f r (0 :: row) ∧ ∀ x ∈ r, Sm (a + b + 2) x := by
  unfold m_root_times
  have e1 : (row.length : Int) - 1 = ((n - 1 : Nat) : Int) := by omega
  have hlast : co row (n - 1) ∈ row := co_mem (by omega)
  rw [e1, pget_co (by omega), bind_ok, cutL_take, pcat_ok (by simp; omega), bind_ok]
  have hlen : ([0] ++ row.take (n - 1)).length = n := by simp; omega
  have hz : (List.zip ([0] ++ row.take (n - 1)) f).length = n := by rw [List.length_zip, hlen]; omega
  have hmap : mapC (fun x5 : Int × Int => (M.bind (pmul (co row (n - 1)) x5.2) fun u6 => ok (x5.1 - u6))) (List.zip ([0] ++ row.take (n - 1)) f) = ok ((List.zip ([0] ++ row.take (n - 1)) f).map fun x => x.1 - co row (n - 1) * x.2) := by
    refine mapC_ok (fun x hx => ?_) (by rw [sizeLineE]; omega)
    have hx2 := ha _ (List.of_mem_zip hx).2
    rw [mul_sm (hb _ hlast) hx2 (by omega), bind_ok]
  rw [hmap]
  refine ⟨_, rfl, by rw [List.length_map, hz], ⟨[-(co row (n - 1))], fun t => ?_⟩, fun x hx => ?_⟩
  · rw [mulP_one_l, zip_map_co (α := Int) _ _ _ n hlen (by omega)]
    by_cases ht : t < n
    · rw [if_pos ht]
      have : co ([0] ++ row.take (n - 1)) t = co (0 :: row) t := by
        cases t with
        | zero => rfl
        | succ t => show co (0 :: row.take (n - 1)) (t + 1) = _; rw [co_succ, co_succ, co_take, if_pos (by omega)]
      dsimp only
      rw [this, Int.neg_mul]; omega
    · rw [if_neg ht]
      by_cases h2 : t = n
      · subst h2
        obtain ⟨m, rfl⟩ : ∃ m, t = m + 1 := ⟨t - 1, by omega⟩
        rw [h1, co_succ, Nat.add_sub_cancel]; omega
      · obtain ⟨m, rfl⟩ : ∃ m, t = m + 1 := ⟨t - 1, by omega⟩
        rw [co_succ, co_out (xs := row) (by omega), co_out (xs := f) (by omega)]; omega
  · obtain ⟨y, hy, rfl⟩ := List.mem_map.mp hx
    obtain ⟨h1, h2⟩ := List.of_mem_zip hy
    have s1 : Sm b y.1 := by
      rcases List.mem_append.mp h1 with z | z
      · have : y.1 = 0 := by simpa using z
        rw [this]; exact Nat.zero_le _
      · exact hb _ (List.mem_of_mem_take z)
    exact (s1.sub ((hb _ hlast).mul (ha _ h2))).mono (by omega)
def shiftP (k : Nat) (y : List Int) : List Int := List.replicate k 0 ++ y
theorem shiftP_succ (k : Nat) (y : List Int) : shiftP (k + 1) y = 0 :: shiftP k y := rfl
theorem poly_table_ok {f y : List Int} {n a b : Nat} (hf : f.length = n + 1) (h1 : co f n = 1) (hy : y.length = n) (hn : 1 ≤ n) (hn2 : n ≤ 1000) (ha : ∀ x ∈ f, Sm a x) (ha2 : a ≤ 60) (hb : ∀ x ∈ y, Sm b x) (hab : b < 700000) :
    ∃ T, m_poly_table f y = ok T ∧ T.length = n ∧ ∀ (k : Nat) r, T[k]? = some r → r.length = n ∧ Cf f r (shiftP k y) ∧ ∀ x ∈ r, Sm (b + k * (a + 2)) x := by
  unfold m_poly_table
  have hB : ∀ i, i ≤ n → b + i * (a + 2) < 800000 := fun i hi => by
    have : i * (a + 2) ≤ 1000 * 62 := Nat.mul_le_mul (by omega) (by omega)
    omega
  have h := Tot.loopMi (f := fun (s5 : (List (List Int)) × (List Int)) k6 => (M.bind (papp s5.1 s5.2) fun rows7 => (M.bind (m_root_times f s5.2) fun row8 => ok (rows7, row8)))) (xs := rangeL 0 n) (c := (([] : List (List Int)), y))
    (fun i (s : List (List Int) × List Int) => s.1.length = i ∧ (∀ (k : Nat) r, s.1[k]? = some r → r.length = n ∧ Cf f r (shiftP k y) ∧ ∀ x ∈ r, Sm (b + k * (a + 2)) x) ∧ s.2.length = n ∧ Cf f s.2 (shiftP i y) ∧ ∀ x ∈ s.2, Sm (b + i * (a + 2)) x)
    ⟨rfl, (fun k r h => by simp at h), hy, Cf.refl _ _, (fun x hx => by rw [Nat.zero_mul]; exact hb x hx)⟩ (fun i s x hx ⟨i1, i2, i3, i4, i5⟩ => by
      have hi := (List.getElem?_eq_some_iff.mp hx).1
      rw [rangeL_len] at hi
      have hBi := hB i (by omega)
      refine .bind (.papp (by omega)) fun q hq => ?_
      obtain ⟨r, e, l, c, m⟩ := root_times_ok hf h1 i3 hn hn2 ha ha2 i5 (by omega)
      rw [e, bind_ok]
      refine .ok ⟨by dsimp only; rw [hq, List.length_append, i1]; rfl, fun k r' hk => ?_, l, c.trans i4.cons0, fun x hx => (m x hx).mono (by rw [Nat.succ_mul]; omega)⟩
      dsimp only at hk
      rw [hq] at hk
      by_cases hki : k < s.1.length
      · rw [List.getElem?_append_left hki] at hk; exact i2 k r' hk
      · rw [List.getElem?_append_right (by omega)] at hk
        have hz : k - s.1.length = 0 := by
          by_cases z : k - s.1.length = 0
          · exact z
          · rw [show k - s.1.length = (k - s.1.length - 1) + 1 by omega] at hk; simp at hk
        rw [hz] at hk
        have : s.2 = r' := by simpa using hk
        rw [← this, show k = i by omega]
        exact ⟨i3, i4, i5⟩)
  obtain ⟨s, e, h1, h2, _⟩ := h
  rw [rangeL_len] at h1
  refine ⟨s.1, ?_, h1, h2⟩
  rw [bind_ok, bind_ok, hy, pr_nat (by omega), bind_ok, e, bind_ok]
/-! ### sums of rows, each taken so often -/
def lin : List Int → List (List Int) → List Int
  | [], _ => []
  | _ :: _, [] => []
  | a :: as, r :: rs => addP (scaleP a r) (lin as rs)
theorem lin_cf {f y : List Int} : ∀ (as : List Int) (rs : List (List Int)) (j : Nat), as.length ≤ rs.length → (∀ (k : Nat) r, rs[k]? = some r → Cf f r (shiftP (j + k) y)) → Cf f (lin as rs) (mulP as (shiftP j y))
  | [], _, _, _, _ => Cf.refl _ _
  | _ :: _, [], _, h, _ => by simp at h
  | x :: as, r :: rs, j, hl, h => by
    have h1 := lin_cf as rs (j + 1) (by simpa using hl) (fun k r' hk => by
      have := h (k + 1) r' (by simpa using hk)
      rw [show j + 1 + k = j + (k + 1) by omega]; exact this)
    have h0 := h 0 r rfl
    refine ((h0.scale x).add h1).trans (.of fun t => ?_)
    show co (addP (scaleP x (shiftP j y)) (mulP as (shiftP (j + 1) y))) t = co (addP (scaleP x (shiftP j y)) (0 :: mulP as (shiftP j y))) t
    rw [addP_co, addP_co, shiftP_succ, mulP_shift_r]
/-! ### the law's own product -/
end T
set_option maxRecDepth 100000
set_option maxHeartbeats 1000000
namespace T
open PySem PySem.Spec PyProof.Rows L2
/-! ### drawn numbers of a ring -/
theorem prepN {k : Nat} (w : Int) (h : k ≤ 16777216) : prep [w] (k : Int) = ok (List.replicate k w) := prep_ok h
/-! ### rows of whole numbers -/
end T
set_option maxRecDepth 100000
set_option maxHeartbeats 4000000
namespace T
open PySem PySem.Spec PyProof.Rows L2
/-! ### tables of numbers, place by place -/
theorem srx {x : Int} (h : x.natAbs ≤ 499) : ∀ y, pmul y x = ok (y * x) := fun y => pmul_right (by rw [pow64]; omega)
theorem rt2 {a b x y : Int} (ha : a.natAbs ≤ 499) (hb : b.natAbs ≤ 499) : m_root_times [a, b, 1] [x, y] = ok [0 - y * a, x - y * b] := by
  unfold m_root_times
  rw [show (([x, y] : List Int).length : Int) - 1 = 1 from rfl, pg1, bind_ok, show pcat [0] (cutL [x, y] none (some 1)) = ok [0, x] from by kernel_rfl, bind_ok]
  refine mapC_ok (xs := List.zip [0, x] [a, b, 1]) (g := fun p => p.1 - y * p.2) (fun p hp => ?_) (by rw [sizeLineE]; simp)
  simp only [List.zip_cons_cons, List.zip_nil_left, List.mem_cons, List.not_mem_nil, or_false] at hp
  rcases hp with rfl | rfl
  · rw [srx ha, bind_ok]
  · rw [srx hb, bind_ok]
theorem rt3 {a b c x y z : Int} (ha : a.natAbs ≤ 499) (hb : b.natAbs ≤ 499) (hc : c.natAbs ≤ 499) : m_root_times [a, b, c, 1] [x, y, z] = ok [0 - z * a, x - z * b, y - z * c] := by
  unfold m_root_times
  rw [show (([x, y, z] : List Int).length : Int) - 1 = 2 from rfl, pg2, bind_ok, show pcat [0] (cutL [x, y, z] none (some 2)) = ok [0, x, y] from by kernel_rfl, bind_ok]
  refine mapC_ok (xs := List.zip [0, x, y] [a, b, c, 1]) (g := fun p => p.1 - z * p.2) (fun p hp => ?_) (by rw [sizeLineE]; simp)
  simp only [List.zip_cons_cons, List.zip_nil_left, List.mem_cons, List.not_mem_nil, or_false] at hp
  rcases hp with rfl | rfl | rfl
  · rw [srx ha, bind_ok]
  · rw [srx hb, bind_ok]
  · rw [srx hc, bind_ok]
theorem rt4 {a b c d x y z w : Int} (ha : a.natAbs ≤ 499) (hb : b.natAbs ≤ 499) (hc : c.natAbs ≤ 499) (hd : d.natAbs ≤ 499) : m_root_times [a, b, c, d, 1] [x, y, z, w] = ok [0 - w * a, x - w * b, y - w * c, z - w * d] := by
  unfold m_root_times
  rw [show (([x, y, z, w] : List Int).length : Int) - 1 = 3 from rfl, pg3, bind_ok, show pcat [0] (cutL [x, y, z, w] none (some 3)) = ok [0, x, y, z] from by kernel_rfl, bind_ok]
  refine mapC_ok (xs := List.zip [0, x, y, z] [a, b, c, d, 1]) (g := fun p => p.1 - w * p.2) (fun p hp => ?_) (by rw [sizeLineE]; simp)
  simp only [List.zip_cons_cons, List.zip_nil_left, List.mem_cons, List.not_mem_nil, or_false] at hp
  rcases hp with rfl | rfl | rfl | rfl
  · rw [srx ha, bind_ok]
  · rw [srx hb, bind_ok]
  · rw [srx hc, bind_ok]
  · rw [srx hd, bind_ok]
theorem papp_small {α : Type} {xs : List α} {x : α} (h : xs.length < 100) : papp xs x = ok (xs ++ [x]) := papp_ok (by omega)
theorem pt2 {a b x y : Int} (ha : a.natAbs ≤ 499) (hb : b.natAbs ≤ 499) : m_poly_table [a, b, 1] [x, y] = ok [[x, y], [0 - y * a, x - y * b]] := by
  unfold m_poly_table
  rw [bind_ok, bind_ok, show (([x, y] : List Int).length : Int) = ((2 : Nat) : Int) from rfl, pr_nat (by decide), show rangeL 0 2 = [0, 1] from rfl]
  simp only [bind_okS, loopM_cons, loopM_nil, rt2 ha hb, papp_small, List.length_nil, List.length_cons, List.nil_append, List.cons_append, Nat.reduceAdd, Nat.reduceLT]
theorem pt3 {a b c x y z : Int} (ha : a.natAbs ≤ 499) (hb : b.natAbs ≤ 499) (hc : c.natAbs ≤ 499) : ∃ p q r s t u : Int, m_poly_table [a, b, c, 1] [x, y, z] = ok [[x, y, z], [p, q, r], [s, t, u]] ∧ p = 0 - z * a ∧ q = x - z * b ∧ r = y - z * c ∧ s = 0 - r * a ∧ t = p - r * b ∧ u = q - r * c := by
  refine ⟨_, _, _, _, _, _, ?_, rfl, rfl, rfl, rfl, rfl, rfl⟩
  unfold m_poly_table
  rw [bind_ok, bind_ok, show (([x, y, z] : List Int).length : Int) = ((3 : Nat) : Int) from rfl, pr_nat (by decide), show rangeL 0 3 = [0, 1, 2] from rfl]
  simp only [bind_okS, loopM_cons, loopM_nil, rt3 ha hb hc, papp_small, List.length_nil, List.length_cons, List.nil_append, List.cons_append, Nat.reduceAdd, Nat.reduceLT]
theorem pt4 {a b c d x y z w : Int} (ha : a.natAbs ≤ 499) (hb : b.natAbs ≤ 499) (hc : c.natAbs ≤ 499) (hd : d.natAbs ≤ 499) : ∃ p q r s t u v k l m n o : Int, m_poly_table [a, b, c, d, 1] [x, y, z, w] = ok [[x, y, z, w], [p, q, r, s], [t, u, v, k], [l, m, n, o]] ∧
    (p = 0 - w * a ∧ q = x - w * b ∧ r = y - w * c ∧ s = z - w * d) ∧ (t = 0 - s * a ∧ u = p - s * b ∧ v = q - s * c ∧ k = r - s * d) ∧ l = 0 - k * a ∧ m = t - k * b ∧ n = u - k * c ∧ o = v - k * d := by
  refine ⟨_, _, _, _, _, _, _, _, _, _, _, _, ?_, ⟨rfl, rfl, rfl, rfl⟩, ⟨rfl, rfl, rfl, rfl⟩, rfl, rfl, rfl, rfl⟩
  unfold m_poly_table
  rw [bind_ok, bind_ok, show (([x, y, z, w] : List Int).length : Int) = ((4 : Nat) : Int) from rfl, pr_nat (by decide), show rangeL 0 4 = [0, 1, 2, 3] from rfl]
  simp only [bind_okS, loopM_cons, loopM_nil, rt4 ha hb hc hd, papp_small, List.length_nil, List.length_cons, List.nil_append, List.cons_append, Nat.reduceAdd, Nat.reduceLT]
/-- the norm, as det tells it, of degree 2 -/
def nd2 (a b c d : Int) : Int := (0 + a * (d)) + -(c * (b))
end T
set_option maxRecDepth 100000
set_option maxHeartbeats 4000000
namespace T
open PySem PySem.Spec PyProof.Rows L2
/-! ### determinants of any size, by the first column -/
/-- a square table of small places -/
def Sq (b m : Nat) (t : List (List Int)) : Prop := t.length = m ∧ ∀ r ∈ t, r.length = m ∧ ∀ x ∈ r, Sm b x
theorem getD_mem {t : List (List Int)} {i : Nat} (h : i < t.length) : t.getD i [] ∈ t := by
  rw [List.getD_eq_getElem?_getD, List.getElem?_eq_getElem h]
  exact List.getElem_mem h
def minorZ (t : List (List Int)) (i : Nat) : List (List Int) := (t.take i ++ t.drop (i + 1)).map (List.drop 1)
theorem Sq.mono {b c m : Nat} {t : List (List Int)} (h : Sq b m t) (hbc : b ≤ c) : Sq c m t := ⟨h.1, fun r hr => ⟨(h.2 r hr).1, fun x hx => ((h.2 r hr).2 x hx).mono hbc⟩⟩
def dz : Nat → List (List Int) → Int
  | 0, _ => 0
  | n + 1, t => if t.length = 1 then co (t.headD []) 0 else (List.range t.length).foldl (fun tot i => tot + (if i % 2 = 1 then -(co (t.getD i []) 0 * dz n (minorZ t i)) else co (t.getD i []) 0 * dz n (minorZ t i))) 0
/-! ### the law's own determinant -/
/-! ### determinants of two, three and four rows, place by place -/
def D2 (r s : Nat → Int) : Int := r 0 * s 1 - s 0 * r 1
def D3 (r s u : Nat → Int) : Int := r 0 * (s 1 * u 2 - u 1 * s 2) - s 0 * (r 1 * u 2 - u 1 * r 2) + u 0 * (r 1 * s 2 - s 1 * r 2)
def D4 (r s u v : Nat → Int) : Int := r 0 * (s 1 * (u 2 * v 3 - v 2 * u 3) - u 1 * (s 2 * v 3 - v 2 * s 3) + v 1 * (s 2 * u 3 - u 2 * s 3)) - s 0 * (r 1 * (u 2 * v 3 - v 2 * u 3) - u 1 * (r 2 * v 3 - v 2 * r 3) + v 1 * (r 2 * u 3 - u 2 * r 3)) + u 0 * (r 1 * (s 2 * v 3 - v 2 * s 3) - s 1 * (r 2 * v 3 - v 2 * r 3) + v 1 * (r 2 * s 3 - s 2 * r 3)) - v 0 * (r 1 * (s 2 * u 3 - u 2 * s 3) - s 1 * (r 2 * u 3 - u 2 * r 3) + u 1 * (r 2 * s 3 - s 2 * r 3))
theorem co_dropN : ∀ (k : Nat) (r : List Int) (t : Nat), co (List.drop k r) t = co r (t + k)
  | 0, r, t => rfl
  | k + 1, [], t => by rw [List.drop_nil]; rfl
  | k + 1, x :: r, t => by rw [List.drop_succ_cons, co_dropN k r t]; rfl
theorem dz2 (r s : List Int) : dz 2 [r, s] = D2 (co r) (co s) := by
  simp [dz, minorZ, List.range_succ, co_dropN, D2, -List.drop_one]
  grind
theorem dz3 (r s u : List Int) : dz 3 [r, s, u] = D3 (co r) (co s) (co u) := by
  simp [dz, minorZ, List.range_succ, co_dropN, D3, -List.drop_one]
  grind
theorem dz4 (r s u v : List Int) : dz 4 [r, s, u, v] = D4 (co r) (co s) (co u) (co v) := by
  simp [dz, minorZ, List.range_succ, co_dropN, D4, -List.drop_one]
  grind
end T
set_option maxRecDepth 100000
set_option maxHeartbeats 4000000
namespace T
open PySem PySem.Spec PyProof.Rows L2
/-! ### the determinant of a product -/
def L2c (a b : Int) (p q : Nat → Int) : Nat → Int := fun t => a * p t + b * q t
def L3c (a b c : Int) (p q x : Nat → Int) : Nat → Int := fun t => a * p t + b * q t + c * x t
def L4c (a b c d : Int) (p q x y : Nat → Int) : Nat → Int := fun t => a * p t + b * q t + c * x t + d * y t
theorem D2_mul (a b c d : Int) (p q : Nat → Int) : D2 (L2c a b p q) (L2c c d p q) = (a * d - c * b) * D2 p q := by
  unfold D2 L2c; grind
theorem D3_lin0 (a b c : Int) (p q x s u : Nat → Int) : D3 (L3c a b c p q x) s u = a * D3 p s u + b * D3 q s u + c * D3 x s u := by
  unfold D3 L3c; grind
theorem D3_lin1 (a b c : Int) (p q x r u : Nat → Int) : D3 r (L3c a b c p q x) u = a * D3 r p u + b * D3 r q u + c * D3 r x u := by
  unfold D3 L3c; grind
theorem D3_lin2 (a b c : Int) (p q x r s : Nat → Int) : D3 r s (L3c a b c p q x) = a * D3 r s p + b * D3 r s q + c * D3 r s x := by
  unfold D3 L3c; grind
theorem D3_same01 (r u : Nat → Int) : D3 r r u = 0 := by
  unfold D3; grind
theorem D3_same02 (r s : Nat → Int) : D3 r s r = 0 := by
  unfold D3; grind
theorem D3_same12 (r s : Nat → Int) : D3 r s s = 0 := by
  unfold D3; grind
theorem D3_p021 (r s u : Nat → Int) : D3 r u s = -D3 r s u := by
  unfold D3; grind
theorem D3_p102 (r s u : Nat → Int) : D3 s r u = -D3 r s u := by
  unfold D3; grind
theorem D3_p120 (r s u : Nat → Int) : D3 s u r = D3 r s u := by
  unfold D3; grind
theorem D3_p201 (r s u : Nat → Int) : D3 u r s = D3 r s u := by
  unfold D3; grind
theorem D3_p210 (r s u : Nat → Int) : D3 u s r = -D3 r s u := by
  unfold D3; grind
theorem D3_mul (a0 a1 a2 b0 b1 b2 c0 c1 c2 : Int) (p q x : Nat → Int) : D3 (L3c a0 a1 a2 p q x) (L3c b0 b1 b2 p q x) (L3c c0 c1 c2 p q x) = D3 (co [a0, a1, a2]) (co [b0, b1, b2]) (co [c0, c1, c2]) * D3 p q x := by
  simp only [D3_lin0, D3_lin1, D3_lin2, D3_same01, D3_same02, D3_same12, D3_p021 p q x, D3_p102 p q x, D3_p120 p q x, D3_p201 p q x, D3_p210 p q x, Int.mul_zero, Int.add_zero, Int.zero_add]
  generalize D3 p q x = z
  simp only [D3, co]
  grind
theorem D4_lin0 (a b c d : Int) (p q x y s u v : Nat → Int) : D4 (L4c a b c d p q x y) s u v = a * D4 p s u v + b * D4 q s u v + c * D4 x s u v + d * D4 y s u v := by
  unfold D4 L4c; grind
theorem D4_lin1 (a b c d : Int) (p q x y r u v : Nat → Int) : D4 r (L4c a b c d p q x y) u v = a * D4 r p u v + b * D4 r q u v + c * D4 r x u v + d * D4 r y u v := by
  unfold D4 L4c; grind
theorem D4_lin2 (a b c d : Int) (p q x y r s v : Nat → Int) : D4 r s (L4c a b c d p q x y) v = a * D4 r s p v + b * D4 r s q v + c * D4 r s x v + d * D4 r s y v := by
  unfold D4 L4c; grind
theorem D4_lin3 (a b c d : Int) (p q x y r s u : Nat → Int) : D4 r s u (L4c a b c d p q x y) = a * D4 r s u p + b * D4 r s u q + c * D4 r s u x + d * D4 r s u y := by
  unfold D4 L4c; grind
theorem D4_same01 (r u v : Nat → Int) : D4 r r u v = 0 := by
  unfold D4; grind
theorem D4_same02 (r s v : Nat → Int) : D4 r s r v = 0 := by
  unfold D4; grind
theorem D4_same03 (r s u : Nat → Int) : D4 r s u r = 0 := by
  unfold D4; grind
theorem D4_same12 (r s v : Nat → Int) : D4 r s s v = 0 := by
  unfold D4; grind
theorem D4_same13 (r s u : Nat → Int) : D4 r s u s = 0 := by
  unfold D4; grind
theorem D4_same23 (r s u : Nat → Int) : D4 r s u u = 0 := by
  unfold D4; grind
theorem D4_p0132 (r s u v : Nat → Int) : D4 r s v u = -D4 r s u v := by
  unfold D4; grind
theorem D4_p0213 (r s u v : Nat → Int) : D4 r u s v = -D4 r s u v := by
  unfold D4; grind
theorem D4_p0231 (r s u v : Nat → Int) : D4 r u v s = D4 r s u v := by
  unfold D4; grind
theorem D4_p0312 (r s u v : Nat → Int) : D4 r v s u = D4 r s u v := by
  unfold D4; grind
theorem D4_p0321 (r s u v : Nat → Int) : D4 r v u s = -D4 r s u v := by
  unfold D4; grind
theorem D4_p1023 (r s u v : Nat → Int) : D4 s r u v = -D4 r s u v := by
  unfold D4; grind
theorem D4_p1032 (r s u v : Nat → Int) : D4 s r v u = D4 r s u v := by
  unfold D4; grind
theorem D4_p1203 (r s u v : Nat → Int) : D4 s u r v = D4 r s u v := by
  unfold D4; grind
theorem D4_p1230 (r s u v : Nat → Int) : D4 s u v r = -D4 r s u v := by
  unfold D4; grind
theorem D4_p1302 (r s u v : Nat → Int) : D4 s v r u = -D4 r s u v := by
  unfold D4; grind
theorem D4_p1320 (r s u v : Nat → Int) : D4 s v u r = D4 r s u v := by
  unfold D4; grind
theorem D4_p2013 (r s u v : Nat → Int) : D4 u r s v = D4 r s u v := by
  unfold D4; grind
theorem D4_p2031 (r s u v : Nat → Int) : D4 u r v s = -D4 r s u v := by
  unfold D4; grind
theorem D4_p2103 (r s u v : Nat → Int) : D4 u s r v = -D4 r s u v := by
  unfold D4; grind
theorem D4_p2130 (r s u v : Nat → Int) : D4 u s v r = D4 r s u v := by
  unfold D4; grind
theorem D4_p2301 (r s u v : Nat → Int) : D4 u v r s = D4 r s u v := by
  unfold D4; grind
theorem D4_p2310 (r s u v : Nat → Int) : D4 u v s r = -D4 r s u v := by
  unfold D4; grind
theorem D4_p3012 (r s u v : Nat → Int) : D4 v r s u = -D4 r s u v := by
  unfold D4; grind
theorem D4_p3021 (r s u v : Nat → Int) : D4 v r u s = D4 r s u v := by
  unfold D4; grind
theorem D4_p3102 (r s u v : Nat → Int) : D4 v s r u = D4 r s u v := by
  unfold D4; grind
theorem D4_p3120 (r s u v : Nat → Int) : D4 v s u r = -D4 r s u v := by
  unfold D4; grind
theorem D4_p3201 (r s u v : Nat → Int) : D4 v u r s = -D4 r s u v := by
  unfold D4; grind
theorem D4_p3210 (r s u v : Nat → Int) : D4 v u s r = D4 r s u v := by
  unfold D4; grind
theorem D4_mul (a0 a1 a2 a3 b0 b1 b2 b3 c0 c1 c2 c3 d0 d1 d2 d3 : Int) (p q x y : Nat → Int) : D4 (L4c a0 a1 a2 a3 p q x y) (L4c b0 b1 b2 b3 p q x y) (L4c c0 c1 c2 c3 p q x y) (L4c d0 d1 d2 d3 p q x y) = D4 (co [a0, a1, a2, a3]) (co [b0, b1, b2, b3]) (co [c0, c1, c2, c3]) (co [d0, d1, d2, d3]) * D4 p q x y := by
  simp only [D4_lin0, D4_lin1, D4_lin2, D4_lin3, D4_same01, D4_same02, D4_same03, D4_same12, D4_same13, D4_same23, D4_p0132 p q x y, D4_p0213 p q x y, D4_p0231 p q x y, D4_p0312 p q x y, D4_p0321 p q x y, D4_p1023 p q x y, D4_p1032 p q x y, D4_p1203 p q x y, D4_p1230 p q x y, D4_p1302 p q x y, D4_p1320 p q x y, D4_p2013 p q x y, D4_p2031 p q x y, D4_p2103 p q x y, D4_p2130 p q x y, D4_p2301 p q x y, D4_p2310 p q x y, D4_p3012 p q x y, D4_p3021 p q x y, D4_p3102 p q x y, D4_p3120 p q x y, D4_p3201 p q x y, D4_p3210 p q x y, Int.mul_zero, Int.add_zero, Int.zero_add]
  generalize D4 p q x y = z
  simp only [D4, co]
  grind
theorem lin2_co (a b : Int) (p q : List Int) (t : Nat) : co (lin [a, b] [p, q]) t = L2c a b (co p) (co q) t := by
  simp only [lin, addP_co, scaleP_co, L2c]
  show _ + (_ + (0 : Int)) = _
  omega
theorem lin3_co (a b c : Int) (p q x : List Int) (t : Nat) : co (lin [a, b, c] [p, q, x]) t = L3c a b c (co p) (co q) (co x) t := by
  simp only [lin, addP_co, scaleP_co, L3c]
  show _ + (_ + (_ + (0 : Int))) = _
  omega
theorem lin4_co (a b c d : Int) (p q x y : List Int) (t : Nat) : co (lin [a, b, c, d] [p, q, x, y]) t = L4c a b c d (co p) (co q) (co x) (co y) t := by
  simp only [lin, addP_co, scaleP_co, L4c]
  show _ + (_ + (_ + (_ + (0 : Int)))) = _
  omega
theorem len2 {α : Type} {xs : List α} (h : xs.length = 2) : ∃ a b, xs = [a, b] := by
  match xs, h with | [a, b], _ => exact ⟨a, b, rfl⟩
theorem len3 {α : Type} {xs : List α} (h : xs.length = 3) : ∃ a b c, xs = [a, b, c] := by
  match xs, h with | [a, b, c], _ => exact ⟨a, b, c, rfl⟩
theorem len4 {α : Type} {xs : List α} (h : xs.length = 4) : ∃ a b c d, xs = [a, b, c, d] := by
  match xs, h with | [a, b, c, d], _ => exact ⟨a, b, c, d, rfl⟩
theorem dz_mul {n : Nat} {A B C : List (List Int)} (h2 : 2 ≤ n) (h4 : n ≤ 4) (lA : A.length = n) (lB : B.length = n) (lC : C.length = n) (rA : ∀ r ∈ A, r.length = n)
    (h : ∀ k, k < n → ∀ t, t < n → co (C.getD k []) t = co (lin (A.getD k []) B) t) : dz n C = dz n A * dz n B := by
  have hn : n = 2 ∨ n = 3 ∨ n = 4 := by omega
  rcases hn with rfl | rfl | rfl
  · obtain ⟨a0, a1, rfl⟩ := len2 lA
    obtain ⟨p, q, rfl⟩ := len2 lB
    obtain ⟨c0, c1, rfl⟩ := len2 lC
    obtain ⟨a, b, rfl⟩ := len2 (rA a0 (by simp))
    obtain ⟨c, d, rfl⟩ := len2 (rA a1 (by simp))
    have h0 : ∀ t, t < 2 → co c0 t = L2c a b (co p) (co q) t := fun t ht => (h 0 (by decide) t ht).trans (lin2_co ..)
    have h1 : ∀ t, t < 2 → co c1 t = L2c c d (co p) (co q) t := fun t ht => (h 1 (by decide) t ht).trans (lin2_co ..)
    rw [dz2, dz2, dz2, show D2 (co c0) (co c1) = D2 (L2c a b (co p) (co q)) (L2c c d (co p) (co q)) by simp only [D2, h0, h1, Nat.reduceLT], D2_mul]
    rfl
  · obtain ⟨a0, a1, a2, rfl⟩ := len3 lA
    obtain ⟨p, q, x, rfl⟩ := len3 lB
    obtain ⟨c0, c1, c2, rfl⟩ := len3 lC
    obtain ⟨u0, u1, u2, rfl⟩ := len3 (rA a0 (by simp))
    obtain ⟨v0, v1, v2, rfl⟩ := len3 (rA a1 (by simp))
    obtain ⟨w0, w1, w2, rfl⟩ := len3 (rA a2 (by simp))
    have h0 : ∀ t, t < 3 → co c0 t = _ := fun t ht => (h 0 (by decide) t ht).trans (lin3_co ..)
    have h1 : ∀ t, t < 3 → co c1 t = _ := fun t ht => (h 1 (by decide) t ht).trans (lin3_co ..)
    have h2 : ∀ t, t < 3 → co c2 t = _ := fun t ht => (h 2 (by decide) t ht).trans (lin3_co ..)
    rw [dz3, dz3, dz3, ← D3_mul]
    simp only [D3, h0, h1, h2, Nat.reduceLT]
  · obtain ⟨a0, a1, a2, a3, rfl⟩ := len4 lA
    obtain ⟨p, q, x, y, rfl⟩ := len4 lB
    obtain ⟨c0, c1, c2, c3, rfl⟩ := len4 lC
    obtain ⟨u0, u1, u2, u3, rfl⟩ := len4 (rA a0 (by simp))
    obtain ⟨v0, v1, v2, v3, rfl⟩ := len4 (rA a1 (by simp))
    obtain ⟨w0, w1, w2, w3, rfl⟩ := len4 (rA a2 (by simp))
    obtain ⟨z0, z1, z2, z3, rfl⟩ := len4 (rA a3 (by simp))
    have h0 : ∀ t, t < 4 → co c0 t = _ := fun t ht => (h 0 (by decide) t ht).trans (lin4_co ..)
    have h1 : ∀ t, t < 4 → co c1 t = _ := fun t ht => (h 1 (by decide) t ht).trans (lin4_co ..)
    have h2 : ∀ t, t < 4 → co c2 t = _ := fun t ht => (h 2 (by decide) t ht).trans (lin4_co ..)
    have h3 : ∀ t, t < 4 → co c3 t = _ := fun t ht => (h 3 (by decide) t ht).trans (lin4_co ..)
    rw [dz4, dz4, dz4, ← D4_mul]
    simp only [D4, h0, h1, h2, h3, Nat.reduceLT]
end T
set_option maxRecDepth 100000
set_option maxHeartbeats 4000000
namespace T
open PySem PySem.Spec PyProof.Rows L2
/-! ### the table of a number -/
def IsTab (f y : List Int) (n : Nat) (U : List (List Int)) : Prop := U.length = n ∧ ∀ (k : Nat) r, U[k]? = some r → r.length = n ∧ Cf f r (shiftP k y)
theorem IsTab.uniq {f y : List Int} {n : Nat} {U V : List (List Int)} (hf : f.length = n + 1) (h1 : co f n = 1) (hU : IsTab f y n U) (hV : IsTab f y n V) : U = V := by
  apply List.ext_getElem (by rw [hU.1, hV.1])
  intro k hk hk'
  obtain ⟨l1, c1⟩ := hU.2 k _ (List.getElem?_eq_getElem hk)
  obtain ⟨l2, c2⟩ := hV.2 k _ (List.getElem?_eq_getElem hk')
  exact (c1.trans c2.symm).eq hf h1 l1 l2
theorem Cf.shift (k : Nat) {f p q : List Int} (h : Cf f p q) : Cf f (shiftP k p) (shiftP k q) := by
  induction k with
  | zero => exact h
  | succ k ih => exact ih.cons0
theorem mulP_shift_l (k : Nat) (x y : List Int) : ∀ t, co (mulP (shiftP k x) y) t = co (shiftP k (mulP x y)) t := by
  induction k with
  | zero => exact fun t => rfl
  | succ k ih =>
    intro t
    rw [shiftP_succ, mulP_cons0, shiftP_succ]
    match t with
    | 0 => rfl
    | t + 1 => exact ih t
theorem lin_out {n : Nat} : ∀ (as : List Int) (rs : List (List Int)), (∀ r ∈ rs, r.length = n) → ∀ t, n ≤ t → co (lin as rs) t = 0
  | [], _, _, _, _ => rfl
  | _ :: _, [], _, _, _ => rfl
  | a :: as, r :: rs, h, t, ht => by
    show co (addP (scaleP a r) (lin as rs)) t = 0
    rw [addP_co, scaleP_co, co_out (xs := r) (by rw [h r List.mem_cons_self]; exact ht), lin_out as rs (fun r hr => h r (List.mem_cons_of_mem _ hr)) t ht]
    omega
theorem IsTab.row {f y : List Int} {n : Nat} {U : List (List Int)} (hU : IsTab f y n U) {k : Nat} (hk : k < n) : (U.getD k []).length = n ∧ Cf f (U.getD k []) (shiftP k y) := by
  have : U[k]? = some (U.getD k []) := by
    rw [List.getD_eq_getElem?_getD, List.getElem?_eq_getElem (by rw [hU.1]; exact hk)]; rfl
  exact hU.2 k _ this
theorem IsTab.mem {f y : List Int} {n : Nat} {U : List (List Int)} (hU : IsTab f y n U) : ∀ r ∈ U, r.length = n := fun r hr => by
  obtain ⟨k, hk⟩ := List.getElem?_of_mem hr
  exact (hU.2 k r hk).1
theorem IsTab.mul {f x y z : List Int} {n : Nat} {A B C : List (List Int)} (hf : f.length = n + 1) (h1 : co f n = 1) (hA : IsTab f x n A) (hB : IsTab f y n B) (hC : IsTab f z n C) (hz : Cf f z (mulP x y)) :
    ∀ k, k < n → ∀ t, co (C.getD k []) t = co (lin (A.getD k []) B) t := fun k hk => by
  obtain ⟨lc, cc⟩ := hC.row hk
  obtain ⟨la, ca⟩ := hA.row hk
  refine Cf.uniq hf h1 (fun t ht => co_out (by omega)) (lin_out _ _ hB.mem) ?_
  refine cc.trans ((hz.shift k).trans ((Cf.of (mulP_shift_l k x y)).symm.trans (((ca.mul_r y).symm).trans ?_)))
  exact (lin_cf (y := y) (A.getD k []) B 0 (by rw [la, hB.1]; omega) fun j r hj => by rw [Nat.zero_add]; exact (hB.2 j r hj).2).symm
theorem poly_table_is {f y : List Int} {n a b : Nat} (hf : f.length = n + 1) (h1 : co f n = 1) (hy : y.length = n) (hn : 1 ≤ n) (hn2 : n ≤ 4) (ha : ∀ x ∈ f, Sm 9 x) (hb : ∀ x ∈ y, Sm b x) (hab : b < 700000) :
    ∃ U, m_poly_table f y = ok U ∧ IsTab f y n U ∧ Sq (b + 50) n U := by
  obtain ⟨U, e, l, h⟩ := poly_table_ok hf h1 hy hn (by omega) ha (by decide) hb hab
  refine ⟨U, e, ⟨l, fun k r hk => ⟨(h k r hk).1, (h k r hk).2.1⟩⟩, l, fun r hr => ?_⟩
  obtain ⟨k, hk⟩ := List.getElem?_of_mem hr
  have hkn := (List.getElem?_eq_some_iff.mp hk).1
  obtain ⟨q1, _, q3⟩ := h k r hk
  refine ⟨q1, fun x hx => (q3 x hx).mono ?_⟩
  have : k * (9 + 2) ≤ 4 * 11 := Nat.mul_le_mul (by omega) (by omega)
  omega
/-! ### the law's own table -/
end T
set_option maxRecDepth 100000
set_option maxHeartbeats 4000000
namespace T
open PySem PySem.Spec PyProof.Rows L2
/-! ### norm and trace -/
def traceZ (n : Nat) (U : List (List Int)) : Int := List.sum ((rangeL 0 n).map fun k => co (U.getD k.toNat []) k.toNat)
end T
set_option maxRecDepth 100000
set_option maxHeartbeats 4000000
namespace T
open PySem PySem.Spec PyProof.Rows L2
/-! ### powers of a number as rows, by its table -/
def rowMul (n : Nat) (v : List Int) (A : List (List Int)) : List Int := (List.range n).map fun t => co (lin v A) t
theorem rowMul_len (n : Nat) (v : List Int) (A : List (List Int)) : (rowMul n v A).length = n := by unfold rowMul; rw [List.length_map, List.length_range]
theorem co_mapRange (g : Nat → Int) (n t : Nat) : co ((List.range n).map g) t = if t < n then g t else 0 := by
  by_cases h : t < n
  · rw [if_pos h]
    exact co_some (by rw [List.getElem?_map, List.getElem?_range h]; rfl)
  · rw [if_neg h, co_out (by rw [List.length_map, List.length_range]; omega)]
theorem rowMul_co {n : Nat} {v : List Int} {A : List (List Int)} (hA : ∀ r ∈ A, r.length = n) (t : Nat) : co (rowMul n v A) t = co (lin v A) t := by
  unfold rowMul
  rw [co_mapRange]
  by_cases h : t < n
  · rw [if_pos h]
  · rw [if_neg h, lin_out v A hA t (by omega)]
theorem rowMul_cf {f x v : List Int} {n : Nat} {A : List (List Int)} (hA : IsTab f x n A) (hv : v.length = n) : Cf f (rowMul n v A) (mulP v x) :=
  (Cf.of (rowMul_co hA.mem)).trans (lin_cf (y := x) v A 0 (by rw [hv, hA.1]; omega) fun j r hj => by rw [Nat.zero_add]; exact (hA.2 j r hj).2)
def tp (n : Nat) (A : List (List Int)) : Nat → List (List Int)
  | 0 => A
  | k + 1 => (tp n A k).map fun r => rowMul n r A
/-- the traces of the powers -/
def trs (n : Nat) (A : List (List Int)) : Nat → Int
  | 0 => n
  | k + 1 => traceZ n (tp n A k)
/-! ### the own polynomial, by the traces -/
def newt (c t : Nat → Int) (k : Nat) : Int := (List.range k).foldl (fun tot i => tot - c (k - (i + 1)) * t (i + 1)) 0
def ownL (n : Nat) (c : Nat → Int) : List Int := ((List.range (n + 1)).map c).reverse
end T
set_option maxRecDepth 100000
set_option maxHeartbeats 8000000
namespace T
open PySem PySem.Spec PyProof.Rows L2
/-! ### the own polynomial of a table, place by place -/
def P2 (r s : Nat → Int) (i j : Nat) : Int := r i * s j - r j * s i
def P3 (r s u : Nat → Int) (i j k : Nat) : Int := r i * P2 s u j k - r j * P2 s u i k + r k * P2 s u i j
def cpc2 (r s : Nat → Int) : Nat → Int
  | 0 => 1
  | 1 => -(r 0 + s 1)
  | _ => D2 r s
def cpc3 (r s u : Nat → Int) : Nat → Int
  | 0 => 1
  | 1 => -(r 0 + s 1 + u 2)
  | 2 => P2 r s 0 1 + P2 r u 0 2 + P2 s u 1 2
  | _ => -D3 r s u
def cpc4 (r s u v : Nat → Int) : Nat → Int
  | 0 => 1
  | 1 => -(r 0 + s 1 + u 2 + v 3)
  | 2 => P2 r s 0 1 + P2 r u 0 2 + P2 r v 0 3 + P2 s u 1 2 + P2 s v 1 3 + P2 u v 2 3
  | 3 => -(P3 r s u 0 1 2 + P3 r s v 0 1 3 + P3 r u v 0 2 3 + P3 s u v 1 2 3)
  | _ => D4 r s u v
def cpA (n : Nat) (A : List (List Int)) : Nat → Int :=
  match n with
  | 2 => cpc2 (co (A.getD 0 [])) (co (A.getD 1 []))
  | 3 => cpc3 (co (A.getD 0 [])) (co (A.getD 1 [])) (co (A.getD 2 []))
  | _ => cpc4 (co (A.getD 0 [])) (co (A.getD 1 [])) (co (A.getD 2 [])) (co (A.getD 3 []))
theorem tr2 (r s : List Int) : traceZ 2 [r, s] = co r 0 + co s 1 := by
  show co r 0 + (co s 1 + 0) = _
  omega
theorem tr3 (r s u : List Int) : traceZ 3 [r, s, u] = co r 0 + co s 1 + co u 2 := by
  show co r 0 + (co s 1 + (co u 2 + 0)) = _
  omega
theorem tr4 (r s u v : List Int) : traceZ 4 [r, s, u, v] = co r 0 + co s 1 + co u 2 + co v 3 := by
  show co r 0 + (co s 1 + (co u 2 + (co v 3 + 0))) = _
  omega
theorem rm2 (x y a b c d : Int) : rowMul 2 [x, y] [[a, b], [c, d]] = [x * a + y * c, x * b + y * d] := by
  show [co (lin _ _) 0, co (lin _ _) 1] = _
  rw [lin2_co, lin2_co]
  rfl
theorem rm3 (x y z a b c d e f g h i : Int) : rowMul 3 [x, y, z] [[a, b, c], [d, e, f], [g, h, i]] = [x * a + y * d + z * g, x * b + y * e + z * h, x * c + y * f + z * i] := by
  show [co (lin _ _) 0, co (lin _ _) 1, co (lin _ _) 2] = _
  rw [lin3_co, lin3_co, lin3_co]
  rfl
theorem rm4 (x y z w a b c d e f g h i j k l m n o p : Int) : rowMul 4 [x, y, z, w] [[a, b, c, d], [e, f, g, h], [i, j, k, l], [m, n, o, p]] = [x * a + y * e + z * i + w * m, x * b + y * f + z * j + w * n, x * c + y * g + z * k + w * o, x * d + y * h + z * l + w * p] := by
  show [co (lin _ _) 0, co (lin _ _) 1, co (lin _ _) 2, co (lin _ _) 3] = _
  rw [lin4_co, lin4_co, lin4_co, lin4_co]
  rfl
theorem newton2 (a b c d : Int) : ∀ k, 1 ≤ k → k ≤ 2 → newt (cpA 2 [[a, b], [c, d]]) (trs 2 [[a, b], [c, d]]) k = k * cpA 2 [[a, b], [c, d]] k := fun k h1 h2 => by
  have hk : k = 1 ∨ k = 2 := by omega
  rcases hk with rfl | rfl
  · simp [newt, List.range_succ, trs, tp, tr2, cpA, cpc2, co]
  · simp [newt, List.range_succ, trs, tp, tr2, rm2, cpA, cpc2, D2, co]
    grind
theorem newton3 (a b c d e f g h i : Int) : ∀ k, 1 ≤ k → k ≤ 3 → newt (cpA 3 [[a, b, c], [d, e, f], [g, h, i]]) (trs 3 [[a, b, c], [d, e, f], [g, h, i]]) k = k * cpA 3 [[a, b, c], [d, e, f], [g, h, i]] k := fun k h1 h2 => by
  have hk : k = 1 ∨ k = 2 ∨ k = 3 := by omega
  rcases hk with rfl | rfl | rfl
  · simp [newt, List.range_succ, trs, tp, tr3, cpA, cpc3, co]
  · simp [newt, List.range_succ, trs, tp, tr3, rm3, cpA, cpc3, P2, co]
    grind
  · simp [newt, List.range_succ, trs, tp, tr3, rm3, cpA, cpc3, P2, D3, co]
    grind
theorem newton4 (a b c d e f g h i j k' l m n o p : Int) : ∀ k, 1 ≤ k → k ≤ 4 → newt (cpA 4 [[a, b, c, d], [e, f, g, h], [i, j, k', l], [m, n, o, p]]) (trs 4 [[a, b, c, d], [e, f, g, h], [i, j, k', l], [m, n, o, p]]) k = k * cpA 4 [[a, b, c, d], [e, f, g, h], [i, j, k', l], [m, n, o, p]] k := fun k h1 h2 => by
  have hk : k = 1 ∨ k = 2 ∨ k = 3 ∨ k = 4 := by omega
  rcases hk with rfl | rfl | rfl | rfl
  · simp [newt, List.range_succ, trs, tp, tr4, cpA, cpc4, co]
  · simp [newt, List.range_succ, trs, tp, tr4, rm4, cpA, cpc4, P2, co]
    grind
  · simp [newt, List.range_succ, trs, tp, tr4, rm4, cpA, cpc4, P2, P3, co]
    grind
  · simp [newt, List.range_succ, trs, tp, tr4, rm4, cpA, cpc4, P2, P3, D4, co]
    grind
/-- z times the first number less the number: its table -/
def subTab (n : Nat) (z : Int) (A : List (List Int)) : List (List Int) := (List.range n).map fun i => (List.range n).map fun j => (if i = j then z else 0) - co (A.getD i []) j
theorem value2 (z a b c d : Int) : ev (ownL 2 (cpA 2 [[a, b], [c, d]])) z = dz 2 (subTab 2 z [[a, b], [c, d]]) := by
  simp [subTab, List.range_succ, dz2, ownL, cpA, cpc2, D2, co, ev]
  grind
theorem value3 (z a b c d e f g h i : Int) : ev (ownL 3 (cpA 3 [[a, b, c], [d, e, f], [g, h, i]])) z = dz 3 (subTab 3 z [[a, b, c], [d, e, f], [g, h, i]]) := by
  simp [subTab, List.range_succ, dz3, ownL, cpA, cpc3, P2, D3, co, ev]
  grind
theorem value4 (z a b c d e f g h i j k' l m n o p : Int) : ev (ownL 4 (cpA 4 [[a, b, c, d], [e, f, g, h], [i, j, k', l], [m, n, o, p]])) z = dz 4 (subTab 4 z [[a, b, c, d], [e, f, g, h], [i, j, k', l], [m, n, o, p]]) := by
  simp [subTab, List.range_succ, dz4, ownL, cpA, cpc4, P2, P3, D4, co, ev]
  grind
def add0 (r : List Int) (p : Int) : List Int := (co r 0 + p) :: r.drop 1
def firstE (n : Nat) : List Int := 1 :: List.replicate (n - 1) 0
def hv (n : Nat) (A : List (List Int)) (c : Nat → Int) : Nat → List Int
  | 0 => firstE n
  | j + 1 => add0 (rowMul n (hv n A c j) A) (c (j + 1))
theorem nought2 (a b c d : Int) : hv 2 [[a, b], [c, d]] (cpA 2 [[a, b], [c, d]]) 2 = List.replicate 2 0 := by
  simp [hv, firstE, add0, rm2, cpA, cpc2, D2, co, List.replicate]
  grind
theorem nought3 (a b c d e f g h i : Int) : hv 3 [[a, b, c], [d, e, f], [g, h, i]] (cpA 3 [[a, b, c], [d, e, f], [g, h, i]]) 3 = List.replicate 3 0 := by
  simp [hv, firstE, add0, rm3, cpA, cpc3, P2, D3, co, List.replicate]
  grind
theorem nought4 (a b c d e f g h i j k' l m n o p : Int) : hv 4 [[a, b, c, d], [e, f, g, h], [i, j, k', l], [m, n, o, p]] (cpA 4 [[a, b, c, d], [e, f, g, h], [i, j, k', l], [m, n, o, p]]) 4 = List.replicate 4 0 := by
  simp [hv, firstE, add0, rm4, cpA, cpc4, P2, P3, D4, co, List.replicate]
  grind
end T
set_option maxRecDepth 100000
set_option maxHeartbeats 2000000
namespace T
open PySem PySem.Spec PyProof.Rows L2
/-! ### the own polynomial of any table of two to four rows -/
theorem loopF_nx {α ρ : Type} {f : Unit → α → M (Fl Unit ρ)} : ∀ (xs : List α), (∀ x ∈ xs, f () x = ok (Fl.nx ())) → loopF f () xs = ok (Fl.nx ())
  | [], _ => rfl
  | x :: xs, h => by
    show (f () x).bind _ = _
    rw [h x List.mem_cons_self, bind_ok]
    exact loopF_nx xs fun y hy => h y (List.mem_cons_of_mem _ hy)
theorem own_all {n : Nat} {A : List (List Int)} (h2 : 2 ≤ n) (h4 : n ≤ 4) (lA : A.length = n) (rA : ∀ r ∈ A, r.length = n) :
    (∀ k, 1 ≤ k → k ≤ n → newt (cpA n A) (trs n A) k = k * cpA n A k) ∧ (∀ z, ev (ownL n (cpA n A)) z = dz n (subTab n z A)) ∧ hv n A (cpA n A) n = List.replicate n 0 ∧ cpA n A 0 = 1 ∧ cpA n A n = (if n % 2 = 1 then -dz n A else dz n A) := by
  have hn : n = 2 ∨ n = 3 ∨ n = 4 := by omega
  rcases hn with rfl | rfl | rfl
  · obtain ⟨a0, a1, rfl⟩ := len2 lA
    obtain ⟨a, b, rfl⟩ := len2 (rA a0 (by simp))
    obtain ⟨c, d, rfl⟩ := len2 (rA a1 (by simp))
    exact ⟨newton2 a b c d, fun z => value2 z a b c d, nought2 a b c d, rfl, by rw [if_neg (by decide), dz2]; rfl⟩
  · obtain ⟨a0, a1, a2, rfl⟩ := len3 lA
    obtain ⟨u0, u1, u2, rfl⟩ := len3 (rA a0 (by simp))
    obtain ⟨v0, v1, v2, rfl⟩ := len3 (rA a1 (by simp))
    obtain ⟨w0, w1, w2, rfl⟩ := len3 (rA a2 (by simp))
    exact ⟨fun k => newton3 _ _ _ _ _ _ _ _ _ k, fun z => value3 z .., nought3 .., rfl, by rw [if_pos (by decide), dz3]; rfl⟩
  · obtain ⟨a0, a1, a2, a3, rfl⟩ := len4 lA
    obtain ⟨u0, u1, u2, u3, rfl⟩ := len4 (rA a0 (by simp))
    obtain ⟨v0, v1, v2, v3, rfl⟩ := len4 (rA a1 (by simp))
    obtain ⟨w0, w1, w2, w3, rfl⟩ := len4 (rA a2 (by simp))
    obtain ⟨z0, z1, z2, z3, rfl⟩ := len4 (rA a3 (by simp))
    exact ⟨fun k => newton4 _ _ _ _ _ _ _ _ _ _ _ _ _ _ _ _ k, fun z => value4 z .., nought4 .., rfl, by rw [if_neg (by decide), dz4]; rfl⟩
/-! ### the table of z less the number -/
/-! ### a row with a number added to its first place, and Horner's way with numbers -/
end T
set_option maxRecDepth 100000
set_option maxHeartbeats 2000000
namespace T
open PySem PySem.Spec PyProof.Rows L2
/-! ### own polynomial, mate, and a number put into a polynomial -/
theorem lin_neg : ∀ (v : List Int) (A : List (List Int)) (t : Nat), co (lin (v.map fun y => -y) A) t = -co (lin v A) t
  | [], _, _ => rfl
  | _ :: _, [], _ => rfl
  | a :: v, r :: A, t => by
    show co (addP (scaleP (-a) r) (lin (v.map fun y => -y) A)) t = -co (addP (scaleP a r) (lin v A)) t
    rw [addP_co, addP_co, scaleP_co, scaleP_co, lin_neg v A t, Int.neg_mul]
    omega
theorem rowMul_neg (n : Nat) (v : List Int) (A : List (List Int)) : rowMul n (v.map fun y => -y) A = (rowMul n v A).map fun y => -y := by
  unfold rowMul
  rw [List.map_map]
  apply List.map_congr_left
  intro t _
  exact lin_neg v A t
theorem add0_inv {q : List Int} {p : Int} {n : Nat} (h1 : 1 ≤ n) (hq : q.length = n) (h : add0 q p = List.replicate n 0) : q = (-p) :: List.replicate (n - 1) 0 := by
  match q, n, h1, hq with
  | a :: q, n + 1, _, hq =>
    unfold add0 at h
    rw [List.replicate_succ] at h
    have h0 : co (a :: q) 0 + p = 0 := (List.cons.inj h).1
    have h2 : q = List.replicate n 0 := (List.cons.inj h).2
    have h3 : a + p = 0 := h0
    rw [h2, show a = -p by omega]
    rfl
theorem negZero (n : Nat) : (List.replicate n (0 : Int)).map (fun y => -y) = List.replicate n 0 := by
  rw [List.map_replicate]; rfl
def mateL (n : Nat) (A : List (List Int)) : List Int := if n % 2 = 0 then (hv n A (cpA n A) (n - 1)).map fun y => -y else hv n A (cpA n A) (n - 1)
theorem mate_mul {n : Nat} {A : List (List Int)} (h2 : 2 ≤ n) (h4 : n ≤ 4) (lA : A.length = n) (rA : ∀ r ∈ A, r.length = n) : rowMul n (mateL n A) A = dz n A :: List.replicate (n - 1) 0 := by
  obtain ⟨_, _, hz, _, ht⟩ := own_all h2 h4 lA rA
  have e : hv n A (cpA n A) n = add0 (rowMul n (hv n A (cpA n A) (n - 1)) A) (cpA n A n) := by
    obtain ⟨m, rfl⟩ : ∃ m, n = m + 1 := ⟨n - 1, by omega⟩
    rfl
  rw [e] at hz
  have hq := add0_inv (by omega) (rowMul_len n _ A) hz
  unfold mateL
  by_cases hn : n % 2 = 0
  · rw [if_pos hn, rowMul_neg, hq, List.map_cons, negZero, ht, if_neg (by omega)]
    congr 1
    omega
  · rw [if_neg hn, hq, ht, if_pos (by omega)]
    congr 1
    omega
end T
set_option maxRecDepth 100000
set_option maxHeartbeats 2000000
namespace T
open PySem PySem.Spec PyProof.Rows L2
/-! ### stair tables: the rest of a row -/
structure Stair (b k : Nat) (A : List (List Int)) : Prop where
  sq : Sq b k A
  up : ∀ i j, i < k → i < j → co (A.getD i []) j = 0
  pos : ∀ i, i < k → 0 < co (A.getD i []) i
theorem Stair.row {b k : Nat} {A : List (List Int)} (h : Stair b k A) {i : Nat} (hi : i < k) : (A.getD i []).length = k ∧ ∀ x ∈ A.getD i [], Sm b x := h.sq.2 _ (getD_mem (by rw [h.sq.1]; exact hi))
theorem ediv_abs {a d : Int} (hd : 0 < d) : (a / d).natAbs ≤ a.natAbs := by
  have h1 : d * (a / d) ≤ a := Int.mul_ediv_self_le (by omega)
  have h2 : a < d * (a / d) + d := Int.lt_mul_ediv_self_add hd
  generalize a / d = q at h1 h2
  by_cases hq : 0 ≤ q
  · have : 1 * q ≤ d * q := Int.mul_le_mul_of_nonneg_right (by omega) hq
    omega
  · have : d * (q + 1) ≤ 1 * (q + 1) := Int.mul_le_mul_of_nonpos_right (by omega) (by omega)
    have e : d * (q + 1) = d * q + d := by rw [Int.mul_add, Int.mul_one]
    omega
def quo (A : List (List Int)) (L : List Int) (i : Nat) : Int := co L i / co (A.getD i []) i
def sub1 (k : Nat) (A : List (List Int)) (L : List Int) (i : Nat) : List Int := (List.range k).map fun j => co L j - quo A L i * co (A.getD i []) j
def lst (k : Nat) (A : List (List Int)) (row : List Int) : Nat → List Int
  | 0 => row
  | s + 1 => sub1 k A (lst k A row s) (k - 1 - s)
theorem map_rangeL {α : Type} (k : Nat) (g : Int → α) : (rangeL 0 k).map g = (List.range k).map fun i : Nat => g (i : Int) := by
  unfold rangeL
  rw [List.map_map]
  apply List.map_congr_left
  intro i _
  show g (0 + (i : Int)) = g (i : Int)
  congr 1
  omega
theorem co_list {L : List Int} {k : Nat} (h : L.length = k) : (List.range k).map (co L) = L := by
  apply List.ext_getElem (by rw [List.length_map, List.length_range, h])
  intro i h1 h2
  rw [List.getElem_map, List.getElem_range, co_get h2]
end T
set_option maxRecDepth 100000
set_option maxHeartbeats 4000000
namespace T
open PySem PySem.Spec PyProof.Rows L2
/-! ### the own polynomial of greater numbers -/
/-! ### the law's own polynomial, by the traces -/
end T
set_option maxRecDepth 100000
set_option maxHeartbeats 2000000
namespace T
open PySem PySem.Spec PyProof.Rows L2
/-! ### what `apart` finds -/
theorem sq_nx {C ρ θ : Type} (c : C) (k : C → M θ) (ι : ρ → θ) : sq (ok (Fl.nx c)) k ι = k c := rfl
end T
set_option maxRecDepth 100000
set_option maxHeartbeats 2000000
namespace T
open PySem PySem.Spec PyProof.Rows L2
/-! ### the two factors -/
end T
set_option maxRecDepth 100000
set_option maxHeartbeats 4000000
namespace T
open PySem PySem.Spec PyProof.Rows L2
/-! ### rings for grind -/
structure RD (α : Type) where
  z : α
  o : α
  ad : α → α → α
  ng : α → α
  ml : α → α → α
  ad_z : ∀ a, ad a z = a
  ad_c : ∀ a b, ad a b = ad b a
  ad_a : ∀ a b c, ad (ad a b) c = ad a (ad b c)
  ng_ad : ∀ a, ad (ng a) a = z
  ml_a : ∀ a b c, ml (ml a b) c = ml a (ml b c)
  ml_c : ∀ a b, ml a b = ml b a
  ml_o : ∀ a, ml a o = a
  ds : ∀ a b c, ml a (ad b c) = ad (ml a b) (ml a c)
section
variable {α : Type}
def RD.nat (d : RD α) : Nat → α
  | 0 => d.z
  | 1 => d.o
  | n + 2 => d.ad (RD.nat d (n + 1)) d.o
def RD.int (d : RD α) : Int → α
  | .ofNat n => d.nat n
  | .negSucc n => d.ng (d.nat (n + 1))
def RD.pw (d : RD α) (a : α) : Nat → α
  | 0 => d.o
  | n + 1 => d.ml (RD.pw d a n) a
theorem RD.z_ad (d : RD α) (a : α) : d.ad d.z a = a := by rw [d.ad_c, d.ad_z]
theorem RD.cancel (d : RD α) {a b c : α} (h : d.ad a b = d.ad a c) : b = c := by
  have e : d.ad (d.ng a) (d.ad a b) = d.ad (d.ng a) (d.ad a c) := by rw [h]
  rwa [← d.ad_a, ← d.ad_a, d.ng_ad, d.z_ad, d.z_ad] at e
theorem RD.ml_z (d : RD α) (a : α) : d.ml a d.z = d.z := d.cancel (a := d.ml a d.z) (by rw [← d.ds, d.ad_z, d.ad_z])
theorem RD.nat_succ (d : RD α) : ∀ n, d.nat (n + 1) = d.ad (d.nat n) d.o
  | 0 => by show d.o = d.ad d.z d.o; rw [d.z_ad]
  | _ + 1 => rfl
theorem RD.ng_ng (d : RD α) (a : α) : d.ng (d.ng a) = a := d.cancel (a := d.ng a) (by rw [d.ng_ad, d.ad_c, d.ng_ad])
theorem RD.ng_z (d : RD α) : d.ng d.z = d.z := by have := d.ng_ad d.z; rwa [d.ad_z] at this
theorem RD.ng_eq (d : RD α) {a b : α} (h : d.ad a b = d.z) : b = d.ng a := d.cancel (a := a) (by rw [h, d.ad_c, d.ng_ad])
theorem RD.ng_ml (d : RD α) (a b : α) : d.ml (d.ng a) b = d.ng (d.ml a b) := d.ng_eq (by rw [d.ml_c a, d.ml_c _ b, ← d.ds, d.ad_c, d.ng_ad, d.ml_z])
theorem RD.int_neg (d : RD α) : ∀ i : Int, d.int (-i) = d.ng (d.int i)
  | .ofNat 0 => by show d.z = d.ng d.z; rw [d.ng_z]
  | .ofNat (n + 1) => rfl
  | .negSucc n => by show d.nat (n + 1) = d.ng (d.ng _); rw [d.ng_ng]
@[reducible] def RD.ring (d : RD α) : Lean.Grind.CommRing α where
  add := d.ad
  mul := d.ml
  natCast := ⟨d.nat⟩
  ofNat n := ⟨d.nat n⟩
  nsmul := ⟨fun n a => d.ml (d.nat n) a⟩
  npow := ⟨fun a n => d.pw a n⟩
  add_zero := d.ad_z
  add_comm := d.ad_c
  add_assoc := d.ad_a
  mul_assoc := d.ml_a
  mul_one := d.ml_o
  one_mul a := (d.ml_c _ _).trans (d.ml_o a)
  left_distrib := d.ds
  right_distrib a b c := by show d.ml (d.ad a b) c = d.ad (d.ml a c) (d.ml b c); rw [d.ml_c, d.ds, d.ml_c c, d.ml_c c]
  zero_mul a := (d.ml_c _ _).trans (d.ml_z a)
  mul_zero a := d.ml_z a
  pow_zero _ := rfl
  pow_succ _ _ := rfl
  ofNat_succ n := d.nat_succ n
  ofNat_eq_natCast _ := rfl
  nsmul_eq_natCast_mul _ _ := rfl
  neg := d.ng
  sub a b := d.ad a (d.ng b)
  intCast := ⟨d.int⟩
  zsmul := ⟨fun i a => d.ml (d.int i) a⟩
  neg_add_cancel := d.ng_ad
  sub_eq_add_neg _ _ := rfl
  neg_zsmul i a := by show d.ml (d.int (-i)) a = d.ng (d.ml (d.int i) a); rw [d.int_neg, d.ng_ml]
  zsmul_natCast_eq_nsmul _ _ := rfl
  intCast_ofNat _ := rfl
  intCast_neg i := d.int_neg i
  mul_comm := d.ml_c
end
/-! ### Z[x] -/
def coEq : Setoid (List Int) := ⟨fun a b => ∀ t, co a t = co b t, fun _ _ => rfl, fun h t => (h t).symm, fun h g t => (h t).trans (g t)⟩
def PZ : Type := Quotient coEq
def PZ.of (l : List Int) : PZ := Quotient.mk coEq l
theorem PZ.ind {P : PZ → Prop} (h : ∀ l, P (PZ.of l)) (a : PZ) : P a := Quotient.ind h a
theorem PZ.rep (a : PZ) : ∃ l, a = PZ.of l := Quotient.ind (motive := fun a => ∃ l, a = PZ.of l) (fun l => ⟨l, rfl⟩) a
theorem PZ.eq {a b : List Int} (h : ∀ t, co a t = co b t) : PZ.of a = PZ.of b := Quotient.sound (s := coEq) h
def PZ.co (a : PZ) (t : Nat) : Int := Quotient.lift (s := coEq) (fun l => T.co l t) (fun _ _ h => h t) a
theorem PZ.co_of (l : List Int) (t : Nat) : (PZ.of l).co t = T.co l t := rfl
theorem PZ.ext {a b : PZ} (h : ∀ t, a.co t = b.co t) : a = b := by
  obtain ⟨l, rfl⟩ := PZ.rep a
  obtain ⟨m, rfl⟩ := PZ.rep b
  exact PZ.eq h
def PZ.addD : PZ → PZ → PZ := Quotient.lift₂ (fun a b => PZ.of (addP a b)) fun a b c d h1 h2 => PZ.eq fun t => by rw [addP_co, addP_co, h1 t, h2 t]
def PZ.mulD : PZ → PZ → PZ := Quotient.lift₂ (fun a b => PZ.of (mulP a b)) fun a b c d h1 h2 => PZ.eq fun t => (mulP_congr_l b h1 t).trans (mulP_congr_r h2 c t)
def PZ.negD : PZ → PZ := Quotient.lift (fun a => PZ.of (scaleP (-1) a)) fun a b h => PZ.eq fun t => by rw [scaleP_co, scaleP_co, h t]
def PZ.rd : RD PZ where
  z := PZ.of []
  o := PZ.of [1]
  ad := PZ.addD
  ng := PZ.negD
  ml := PZ.mulD
  ad_z := PZ.ind fun a => PZ.eq fun t => by rw [addP_co, co_nil, Int.add_zero]
  ad_c := PZ.ind fun a => PZ.ind fun b => PZ.eq fun t => by rw [addP_co, addP_co, Int.add_comm]
  ad_a := PZ.ind fun a => PZ.ind fun b => PZ.ind fun c => PZ.eq fun t => by rw [addP_co, addP_co, addP_co, addP_co, Int.add_assoc]
  ng_ad := PZ.ind fun a => PZ.eq fun t => by rw [addP_co, scaleP_co, co_nil]; omega
  ml_a := PZ.ind fun a => PZ.ind fun b => PZ.ind fun c => PZ.eq fun t => mulP_assoc b c a t
  ml_c := PZ.ind fun a => PZ.ind fun b => PZ.eq fun t => mulP_comm a b t
  ml_o := PZ.ind fun a => PZ.eq fun t => by rw [mulP_comm, mulP_one_l, Int.one_mul]
  ds := PZ.ind fun a => PZ.ind fun b => PZ.ind fun c => PZ.eq fun t => by rw [mulP_add_r, addP_co]
instance : Lean.Grind.CommRing PZ := PZ.rd.ring
instance : IntCast PZ := Lean.Grind.Ring.intCast
instance : NatCast PZ := Lean.Grind.Semiring.natCast
theorem PZ.of_add (a b : List Int) : PZ.of (addP a b) = PZ.of a + PZ.of b := rfl
theorem PZ.of_mul (a b : List Int) : PZ.of (mulP a b) = PZ.of a * PZ.of b := rfl
theorem PZ.of_nil : PZ.of [] = 0 := rfl
theorem PZ.of_one : PZ.of [1] = 1 := rfl
theorem PZ.co_add (a b : PZ) (t : Nat) : (a + b).co t = a.co t + b.co t := by
  obtain ⟨a, rfl⟩ := PZ.rep a
  obtain ⟨b, rfl⟩ := PZ.rep b
  exact addP_co a b t
theorem PZ.co_neg (a : PZ) (t : Nat) : (-a).co t = -a.co t := by
  obtain ⟨a, rfl⟩ := PZ.rep a
  show T.co (scaleP (-1) a) t = - T.co a t
  rw [scaleP_co]; omega
theorem PZ.co_sub (a b : PZ) (t : Nat) : (a - b).co t = a.co t - b.co t := by
  rw [Lean.Grind.Ring.sub_eq_add_neg, PZ.co_add, PZ.co_neg]; omega
theorem PZ.co_zero (t : Nat) : (0 : PZ).co t = 0 := rfl
theorem PZ.natC : ∀ n : Nat, PZ.rd.nat n = PZ.of [(n : Int)]
  | 0 => PZ.eq fun t => by cases t <;> rfl
  | n + 1 => by
    rw [RD.nat_succ, PZ.natC n]
    exact PZ.eq fun t => by
      rw [addP_co]
      cases t with
      | zero => show (n : Int) + 1 = ((n + 1 : Nat) : Int); omega
      | succ t => rfl
theorem PZ.intC : ∀ i : Int, (i : PZ) = PZ.of [i]
  | .ofNat n => PZ.natC n
  | .negSucc n => by
    show PZ.rd.ng (PZ.rd.nat (n + 1)) = _
    rw [PZ.natC]
    exact PZ.eq fun t => by
      rw [scaleP_co]
      cases t with
      | zero => show -1 * ((n + 1 : Nat) : Int) = Int.negSucc n; omega
      | succ t => rfl
theorem PZ.co_int_mul (c : Int) (a : PZ) (t : Nat) : ((c : PZ) * a).co t = c * a.co t := by
  rw [PZ.intC]
  obtain ⟨a, rfl⟩ := PZ.rep a
  exact mulP_one_l c a t
theorem PZ.co_int (c : Int) (t : Nat) : (c : PZ).co t = if t = 0 then c else 0 := by
  rw [PZ.intC]
  cases t <;> rfl
theorem PZ.of_scale (c : Int) (a : List Int) : PZ.of (scaleP c a) = (c : PZ) * PZ.of a := PZ.ext fun t => by rw [PZ.co_int_mul]; exact scaleP_co c a t
/-- x -/
def PZ.X : PZ := PZ.of [0, 1]
theorem PZ.of_cons (a : Int) (l : List Int) : PZ.of (a :: l) = (a : PZ) + PZ.X * PZ.of l := by
  rw [PZ.intC]
  refine PZ.eq fun t => ?_
  rw [addP_co]
  have h : ∀ t, T.co (mulP [0, 1] l) t = T.co (0 :: l) t := fun t => by
    rw [show ([0, 1] : List Int) = 0 :: [1] from rfl, mulP_cons0, co_cons0, co_cons0]
    cases t with
    | zero => rfl
    | succ t => show T.co (mulP [1] l) t = T.co l t; rw [mulP_one_l, Int.one_mul]
  rw [h]
  cases t with
  | zero => show a = a + 0; omega
  | succ t => show T.co (a :: l) (t + 1) = 0 + T.co (0 :: l) (t + 1); rw [co_succ, co_succ]; omega
theorem PZ.coX_zero (a : PZ) : (PZ.X * a).co 0 = 0 := by
  obtain ⟨a, rfl⟩ := PZ.rep a
  rw [show PZ.X * PZ.of a = PZ.of (0 :: a) by rw [PZ.of_cons]; grind]
  rfl
theorem PZ.coX_succ (a : PZ) (t : Nat) : (PZ.X * a).co (t + 1) = a.co t := by
  obtain ⟨a, rfl⟩ := PZ.rep a
  rw [show PZ.X * PZ.of a = PZ.of (0 :: a) by rw [PZ.of_cons]; grind]
  exact co_succ 0 a t
/-! ### degrees -/
/-- all places from n on are nought -/
def PZ.Bd (a : PZ) (n : Nat) : Prop := ∀ t, n ≤ t → a.co t = 0
theorem PZ.Bd.mono {a : PZ} {n m : Nat} (h : a.Bd n) (l : n ≤ m) : a.Bd m := fun t ht => h t (by omega)
theorem PZ.bd (a : PZ) : ∃ n, a.Bd n := by
  obtain ⟨l, rfl⟩ := PZ.rep a
  exact ⟨l.length, fun t ht => co_out ht⟩
theorem PZ.of_bd (l : List Int) : (PZ.of l).Bd l.length := fun t ht => co_out ht
/-- as a row of n places -/
def PZ.row (a : PZ) (n : Nat) : List Int := (List.range n).map a.co
theorem PZ.row_len (a : PZ) (n : Nat) : (a.row n).length = n := by unfold PZ.row; simp
theorem PZ.row_co (a : PZ) (n t : Nat) : T.co (a.row n) t = if t < n then a.co t else 0 := by
  unfold PZ.row
  rw [co_mapRange]
theorem PZ.of_row {a : PZ} {n : Nat} (h : a.Bd n) : PZ.of (a.row n) = a := PZ.ext fun t => by
  show T.co (a.row n) t = a.co t
  rw [PZ.row_co]
  by_cases ht : t < n
  · rw [if_pos ht]
  · rw [if_neg ht, h t (by omega)]
theorem PZ.row_of {l : List Int} {n : Nat} (h : l.length = n) : (PZ.of l).row n = l := co_list h
theorem PZ.Bd.add {a b : PZ} {n : Nat} (h : a.Bd n) (g : b.Bd n) : (a + b).Bd n := fun t ht => by rw [PZ.co_add, h t ht, g t ht]; rfl
theorem PZ.Bd.sub {a b : PZ} {n : Nat} (h : a.Bd n) (g : b.Bd n) : (a - b).Bd n := fun t ht => by rw [PZ.co_sub, h t ht, g t ht]; rfl
theorem PZ.Bd.neg {a : PZ} {n : Nat} (h : a.Bd n) : (-a).Bd n := fun t ht => by rw [PZ.co_neg, h t ht]; rfl
theorem PZ.Bd.int {a : PZ} {n : Nat} (c : Int) (h : a.Bd n) : ((c : PZ) * a).Bd n := fun t ht => by rw [PZ.co_int_mul, h t ht, Int.mul_zero]
theorem PZ.bd_zero (n : Nat) : (0 : PZ).Bd n := fun _ _ => rfl
/-- the top place of a product -/
theorem PZ.mul_top {a b : PZ} {n m : Nat} (ha : a.Bd (n + 1)) (hb : b.Bd (m + 1)) : (a * b).Bd (n + m + 1) ∧ (a * b).co (n + m) = a.co n * b.co m := by
  rw [← PZ.of_row ha, ← PZ.of_row hb]
  have la := PZ.row_len a (n + 1)
  have lb := PZ.row_len b (m + 1)
  refine ⟨fun t ht => ?_, ?_⟩
  · show T.co (mulP _ _) t = 0
    exact mulP_out _ _ t (by omega) (.inr (by omega))
  · have := mulP_top (b.row (m + 1)) (by omega) (a.row (n + 1)) (by omega)
    rw [la, lb] at this
    rw [show n + 1 + (m + 1) - 2 = n + m by omega, Nat.add_sub_cancel, Nat.add_sub_cancel] at this
    exact this
theorem PZ.Bd.mul {a b : PZ} {n m : Nat} (ha : a.Bd (n + 1)) (hb : b.Bd (m + 1)) : (a * b).Bd (n + m + 1) := (PZ.mul_top ha hb).1
/-- the degree of what is not nought -/
theorem PZ.deg {a : PZ} (h : a ≠ 0) : ∃ n, a.Bd (n + 1) ∧ a.co n ≠ 0 := by
  obtain ⟨N, hN⟩ := a.bd
  induction N with
  | zero => exact absurd (PZ.ext fun t => hN t (Nat.zero_le _)) h
  | succ N ih =>
    by_cases hz : a.co N = 0
    · refine ih fun t ht => ?_
      by_cases e : t = N
      · rw [e]; exact hz
      · exact hN t (by omega)
    · exact ⟨N, hN, hz⟩
/-- monic, of degree n -/
structure PZ.Mon (f : PZ) (n : Nat) : Prop where
  bd : f.Bd (n + 1)
  top : f.co n = 1
def PZ.xp : Nat → PZ
  | 0 => 1
  | n + 1 => PZ.X * PZ.xp n
theorem PZ.co_one (t : Nat) : (1 : PZ).co t = if t = 0 then 1 else 0 := by cases t <;> rfl
theorem PZ.co_xp : ∀ (k : Nat) (a : PZ) (t : Nat), (PZ.xp k * a).co t = if k ≤ t then a.co (t - k) else 0
  | 0, a, t => by rw [show PZ.xp 0 * a = a by show 1 * a = a; grind]; rfl
  | k + 1, a, t => by
    rw [show PZ.xp (k + 1) * a = PZ.X * (PZ.xp k * a) by show PZ.X * PZ.xp k * a = _; grind]
    cases t with
    | zero => rw [PZ.coX_zero, if_neg (by omega)]
    | succ t =>
      rw [PZ.coX_succ, PZ.co_xp k a t]
      by_cases h : k ≤ t
      · rw [if_pos h, if_pos (by omega), Nat.succ_sub_succ]
      · rw [if_neg h, if_neg (by omega)]
/-- pseudo-division by what has degree m -/
theorem PZ.pdiv {d : PZ} {m : Nat} (hd : d.Bd (m + 1)) : ∀ (N : Nat) (a : PZ), a.Bd N → ∃ (k : Nat) (q s : PZ), ((d.co m ^ k : Int) : PZ) * a = q * d + s ∧ s.Bd m
  | 0, a, h => ⟨0, 0, 0, by rw [show a = 0 from PZ.ext fun t => h t (Nat.zero_le _)]; grind, PZ.bd_zero _⟩
  | N + 1, a, h => by
    by_cases hN : N < m
    · exact ⟨0, 0, a, by rw [Int.pow_zero]; grind, h.mono (by omega)⟩
    · have e : (((d.co m : Int) : PZ) * a - ((a.co N : Int) : PZ) * (PZ.xp (N - m) * d)).Bd N := fun t ht => by
        rw [PZ.co_sub, PZ.co_int_mul, PZ.co_int_mul, PZ.co_xp, if_pos (by omega)]
        by_cases et : t = N
        · rw [et, show N - (N - m) = m by omega, Int.mul_comm]; omega
        · rw [h t (by omega), hd (t - (N - m)) (by omega), Int.mul_zero, Int.mul_zero]; rfl
      obtain ⟨k, q, s, h1, h2⟩ := PZ.pdiv hd N _ e
      refine ⟨k + 1, q + ((d.co m ^ k : Int) : PZ) * ((a.co N : Int) : PZ) * PZ.xp (N - m), s, ?_, h2⟩
      rw [Int.pow_succ]
      have : ((d.co m ^ k * d.co m : Int) : PZ) = ((d.co m ^ k : Int) : PZ) * ((d.co m : Int) : PZ) := by grind
      rw [this]
      grind
theorem PZ.mdiv {d : PZ} {m : Nat} (hd : d.Mon m) (a : PZ) : ∃ q s : PZ, a = q * d + s ∧ s.Bd m := by
  obtain ⟨N, hN⟩ := a.bd
  obtain ⟨k, q, s, h1, h2⟩ := PZ.pdiv hd.bd N a hN
  rw [hd.top, Int.one_pow] at h1
  exact ⟨q, s, by grind, h2⟩
theorem PZ.mdiv_uniq {d : PZ} {m : Nat} (hd : d.Mon m) {q s q' s' : PZ} (h : q * d + s = q' * d + s') (h1 : s.Bd m) (h2 : s'.Bd m) : q = q' ∧ s = s' := by
  have hq : q = q' := by
    by_cases e : q - q' = 0
    · grind
    · obtain ⟨n, h3, h4⟩ := PZ.deg e
      have ht := (PZ.mul_top h3 hd.bd).2
      rw [hd.top] at ht
      have e2 : (q - q') * d = s' - s := by grind
      rw [e2, PZ.co_sub, h1 _ (by omega), h2 _ (by omega)] at ht
      omega
  subst hq
  exact ⟨rfl, by grind⟩
end T
set_option maxRecDepth 100000
set_option maxHeartbeats 4000000
namespace T
open PySem PySem.Spec PyProof.Rows L2
/-! ### primes of Z, and what they divide in Z[x] -/
def PrI (p : Int) : Prop := 1 < p ∧ ∀ a b : Int, p ∣ a * b → p ∣ a ∨ p ∣ b
theorem prI_of_nat {p : Nat} (h1 : 1 < p) (h : ∀ d, d ∣ p → d = 1 ∨ d = p) : PrI (p : Int) := ⟨by omega, fun a b hab => by
  have hn : p ∣ a.natAbs * b.natAbs := by
    have := Int.natAbs_dvd_natAbs.mpr hab
    rwa [Int.natAbs_natCast, Int.natAbs_mul] at this
  rcases h (Nat.gcd p a.natAbs) (Nat.gcd_dvd_left _ _) with e | e
  · right
    have := Nat.Coprime.dvd_of_dvd_mul_left (k := p) (show Nat.Coprime p a.natAbs from e) hn
    exact Int.natAbs_dvd_natAbs.mp (by rwa [Int.natAbs_natCast])
  · left
    have : p ∣ a.natAbs := by
      have h2 := Nat.gcd_dvd_right p a.natAbs
      rwa [e] at h2
    exact Int.natAbs_dvd_natAbs.mp (by rwa [Int.natAbs_natCast])⟩
theorem prime_div_nat : ∀ (N c : Nat), c ≤ N → 1 < c → ∃ p : Nat, 1 < p ∧ (∀ d, d ∣ p → d = 1 ∨ d = p) ∧ p ∣ c
  | 0, c, h, h1 => by omega
  | N + 1, c, h, h1 => by
    by_cases hp : ∀ d, d ∣ c → d = 1 ∨ d = c
    · exact ⟨c, h1, hp, Nat.dvd_refl c⟩
    · obtain ⟨d, hd⟩ := Classical.not_forall.mp hp
      obtain ⟨h2, h3⟩ := Classical.not_imp.mp hd
      have h4 : d ≠ 1 ∧ d ≠ c := ⟨fun z => h3 (.inl z), fun z => h3 (.inr z)⟩
      have h5 := Nat.le_of_dvd (by omega) h2
      have h6 : d ≠ 0 := fun z => by subst z; have := Nat.eq_zero_of_zero_dvd h2; omega
      obtain ⟨p, p1, p2, p3⟩ := prime_div_nat N d (by omega) (by omega)
      exact ⟨p, p1, p2, Nat.dvd_trans p3 h2⟩
theorem prime_div {c : Int} (h0 : c ≠ 0) (h : c.natAbs ≠ 1) : ∃ p, PrI p ∧ p ∣ c := by
  obtain ⟨p, p1, p2, p3⟩ := prime_div_nat c.natAbs c.natAbs (Nat.le_refl _) (by omega)
  exact ⟨p, prI_of_nat p1 p2, Int.natAbs_dvd_natAbs.mp (by rwa [Int.natAbs_natCast])⟩
/-- p divides all places -/
def PZ.Dvp (p : Int) (a : PZ) : Prop := ∀ t, p ∣ a.co t
theorem PZ.dvp_iff {p : Int} {a : PZ} : a.Dvp p ↔ ∃ b : PZ, a = (p : PZ) * b := by
  constructor
  · intro h
    obtain ⟨n, hn⟩ := a.bd
    refine ⟨PZ.of ((a.row n).map (· / p)), PZ.ext fun t => ?_⟩
    rw [PZ.co_int_mul]
    show a.co t = p * T.co ((a.row n).map (· / p)) t
    rw [co_map _ _ (Int.zero_ediv p), PZ.row_co]
    by_cases ht : t < n
    · rw [if_pos ht, Int.mul_ediv_cancel' (h t)]
    · rw [if_neg ht, hn t (by omega), Int.zero_ediv, Int.mul_zero]
  · rintro ⟨b, rfl⟩ t
    rw [PZ.co_int_mul]
    exact Int.dvd_mul_right p _
theorem PZ.not_dvp {p : Int} {a : PZ} (h : ¬ a.Dvp p) : ∃ (n : Nat) (a1 a2 : PZ), a = a1 + (p : PZ) * a2 ∧ a1.Bd (n + 1) ∧ ¬ p ∣ a1.co n := by
  obtain ⟨N, hN⟩ := a.bd
  have key : ∀ N, (∀ t, N ≤ t → p ∣ a.co t) → ∃ n, ¬ p ∣ a.co n ∧ ∀ t, n < t → p ∣ a.co t := by
    intro N
    induction N with
    | zero => exact fun g => absurd (fun t => g t (Nat.zero_le _)) h
    | succ N ih =>
      intro g
      by_cases hz : p ∣ a.co N
      · exact ih fun t ht => by
          by_cases e : t = N
          · rw [e]; exact hz
          · exact g t (by omega)
      · exact ⟨N, hz, fun t ht => g t ht⟩
  obtain ⟨n, h1, h2⟩ := key N fun t ht => by rw [hN t ht]; exact Int.dvd_zero p
  have hd : (a - PZ.of (a.row (n + 1))).Dvp p := fun t => by
    rw [PZ.co_sub, PZ.co_of, PZ.row_co]
    by_cases ht : t < n + 1
    · rw [if_pos ht, Int.sub_self]; exact Int.dvd_zero p
    · rw [if_neg ht, Int.sub_zero]; exact h2 t (by omega)
  obtain ⟨a2, e⟩ := PZ.dvp_iff.mp hd
  refine ⟨n, PZ.of (a.row (n + 1)), a2, by grind, fun t ht => ?_, ?_⟩
  · rw [PZ.co_of, PZ.row_co, if_neg (by omega)]
  · rw [PZ.co_of, PZ.row_co, if_pos (by omega)]; exact h1
theorem PZ.dvp_mul {p : Int} (hp : PrI p) {a b : PZ} (h : (a * b).Dvp p) : a.Dvp p ∨ b.Dvp p := by
  by_cases ha : a.Dvp p
  · exact .inl ha
  by_cases hb : b.Dvp p
  · exact .inr hb
  obtain ⟨n, a1, a2, e1, d1, t1⟩ := PZ.not_dvp ha
  obtain ⟨m, b1, b2, e2, d2, t2⟩ := PZ.not_dvp hb
  have ht := (PZ.mul_top d1 d2).2
  have e : a1 * b1 = a * b - (p : PZ) * (a2 * b1 + b2 * a1 + (p : PZ) * (a2 * b2)) := by grind
  rw [e, PZ.co_sub, PZ.co_int_mul] at ht
  have hd : p ∣ a1.co n * b1.co m := by
    rw [← ht]
    exact Int.dvd_sub (h _) (Int.dvd_mul_right p _)
  rcases hp.2 _ _ hd with z | z
  · exact absurd z t1
  · exact absurd z t2
theorem PZ.int_cancel {c : Int} (hc : c ≠ 0) {a b : PZ} (h : (c : PZ) * a = (c : PZ) * b) : a = b := PZ.ext fun t => by
  have := congrArg (fun x => PZ.co x t) h
  simp only [PZ.co_int_mul] at this
  exact Int.eq_of_mul_eq_mul_left hc this
/-- what divides a multiple of a monic one is, up to a number, a monic one that divides it (Gauss) -/
theorem PZ.gauss {f : PZ} {n : Nat} (hf : f.Mon n) : ∀ (N : Nat) (C : Int) (q d : PZ) (m : Nat), C.natAbs ≤ N → C ≠ 0 → d.Bd (m + 1) → d.co m ≠ 0 → (C : PZ) * f = q * d → m ≤ n ∧ ∃ q' d' : PZ, q'.Mon (n - m) ∧ d'.Mon m ∧ f = q' * d'
  | 0, C, q, d, m, hN, hC, _, _, _ => by omega
  | N + 1, C, q, d, m, hN, hC, hd, ht, h => by
    by_cases h1 : C.natAbs = 1
    · have hq0 : q ≠ 0 := fun z => by
        have := congrArg (fun x => PZ.co x n) h
        simp only [PZ.co_int_mul, hf.top] at this
        rw [z, show (0 : PZ) * d = 0 by grind, PZ.co_zero] at this
        omega
      obtain ⟨l, hq1, hq2⟩ := PZ.deg hq0
      obtain ⟨p1, p2⟩ := PZ.mul_top hq1 hd
      have hlm : l + m = n := by
        rw [← h] at p1 p2
        rw [PZ.co_int_mul] at p2
        have hne : q.co l * d.co m ≠ 0 := Int.mul_ne_zero hq2 ht
        have a1 : ¬ n < l + m := fun z => hne (by rw [← p2, hf.bd _ (by omega), Int.mul_zero])
        have a2 : ¬ l + m < n := fun z => by
          have := p1 n (by omega)
          rw [PZ.co_int_mul, hf.top] at this
          omega
        omega
      subst hlm
      rw [← h, PZ.co_int_mul, hf.top, Int.mul_one] at p2
      refine ⟨by omega, ?_⟩
      rw [Nat.add_sub_cancel]
      have hu : q.co l * d.co m = 1 ∨ q.co l * d.co m = -1 := by omega
      have hdu : d.co m = 1 ∨ d.co m = -1 := by
        have hdv : d.co m ∣ 1 := by
          rcases hu with e | e
          · exact ⟨q.co l, by rw [Int.mul_comm]; omega⟩
          · exact ⟨-q.co l, by rw [Int.mul_neg, Int.mul_comm]; omega⟩
        have h3 := Int.natAbs_dvd_natAbs.mpr hdv
        have h4 : (d.co m).natAbs = 1 := Nat.dvd_one.mp h3
        omega
      have e1 : ∀ x : Int, x = 1 ∨ x = -1 → x * x = 1 := fun x hx => by rcases hx with rfl | rfl <;> rfl
      refine ⟨((C * d.co m : Int) : PZ) * q, ((d.co m : Int) : PZ) * d, ⟨hq1.int _, ?_⟩, ⟨hd.int _, ?_⟩, ?_⟩
      · rw [PZ.co_int_mul, p2, Int.mul_assoc, Int.mul_comm (d.co m)]
        exact e1 _ (by omega)
      · rw [PZ.co_int_mul]; exact e1 _ hdu
      · have hCC : C * C = 1 := e1 _ (by omega)
        have hDD := e1 _ hdu
        have c1 : ((C * d.co m : Int) : PZ) = (C : PZ) * ((d.co m : Int) : PZ) := by grind
        have c2 : (C : PZ) * (C : PZ) = 1 := by
          have : ((C * C : Int) : PZ) = 1 := by rw [hCC]; rfl
          grind
        have c3 : ((d.co m : Int) : PZ) * ((d.co m : Int) : PZ) = 1 := by
          have : ((d.co m * d.co m : Int) : PZ) = 1 := by rw [hDD]; rfl
          grind
        rw [c1]
        grind
    · obtain ⟨p, hp, k, rfl⟩ := prime_div hC h1
      have hk0 : k ≠ 0 := fun z => hC (by rw [z, Int.mul_zero])
      have hlt : k.natAbs ≤ N := by
        rw [Int.natAbs_mul] at hN
        have h2 : 2 * k.natAbs ≤ p.natAbs * k.natAbs := Nat.mul_le_mul_right _ (by have := hp.1; omega)
        omega
      have hdv : (q * d).Dvp p := by
        rw [← h]
        exact PZ.dvp_iff.mpr ⟨(k : PZ) * f, by grind⟩
      have hp0 : p ≠ 0 := by have := hp.1; omega
      rcases PZ.dvp_mul hp hdv with z | z
      · obtain ⟨q1, e⟩ := PZ.dvp_iff.mp z
        exact PZ.gauss hf N k q1 d m hlt hk0 hd ht (PZ.int_cancel hp0 (by grind))
      · obtain ⟨d1, e⟩ := PZ.dvp_iff.mp z
        refine PZ.gauss hf N k q d1 m hlt hk0 (fun t ht => ?_) (fun z => ht ?_) (PZ.int_cancel hp0 (by grind))
        · have := hd t ht
          rw [e, PZ.co_int_mul] at this
          rcases Int.mul_eq_zero.mp this with z | z
          · exact absurd z hp0
          · exact z
        · rw [e, PZ.co_int_mul, z, Int.mul_zero]
end T
set_option maxRecDepth 100000
set_option maxHeartbeats 4000000
namespace T
open PySem PySem.Spec PyProof.Rows L2
/-! ### Z[x] by a monic polynomial -/
structure NF where
  f : PZ
  n : Nat
  mon : f.Mon n
  pos : 0 < n
def NF.st (F : NF) : Setoid PZ := ⟨fun a b => ∃ u, a = b + u * F.f, fun a => ⟨0, by grind⟩, fun ⟨u, h⟩ => ⟨-u, by grind⟩, fun ⟨u, h⟩ ⟨v, g⟩ => ⟨u + v, by grind⟩⟩
def NF.R (F : NF) : Type := Quotient F.st
section
variable {F : NF}
def NF.cl (F : NF) (a : PZ) : F.R := Quotient.mk F.st a
theorem NF.rep (x : F.R) : ∃ a, x = F.cl a := Quotient.ind (motive := fun x => ∃ a, x = F.cl a) (fun a => ⟨a, rfl⟩) x
theorem NF.cl_eq {a b : PZ} : F.cl a = F.cl b ↔ ∃ u, a = b + u * F.f := ⟨fun h => Quotient.exact (s := F.st) h, fun h => Quotient.sound (s := F.st) h⟩
def NF.rd (F : NF) : RD F.R where
  z := F.cl 0
  o := F.cl 1
  ad := Quotient.lift₂ (fun a b => F.cl (a + b)) fun a b c d ⟨u, h⟩ ⟨v, g⟩ => NF.cl_eq.mpr ⟨u + v, by grind⟩
  ng := Quotient.lift (fun a => F.cl (-a)) fun a b ⟨u, h⟩ => NF.cl_eq.mpr ⟨-u, by grind⟩
  ml := Quotient.lift₂ (fun a b => F.cl (a * b)) fun a b c d ⟨u, h⟩ ⟨v, g⟩ => NF.cl_eq.mpr ⟨u * d + v * c + u * v * F.f, by grind⟩
  ad_z a := by obtain ⟨a, rfl⟩ := NF.rep a; exact congrArg F.cl (show a + 0 = a by grind)
  ad_c a b := by obtain ⟨a, rfl⟩ := NF.rep a; obtain ⟨b, rfl⟩ := NF.rep b; exact congrArg F.cl (show a + b = b + a by grind)
  ad_a a b c := by obtain ⟨a, rfl⟩ := NF.rep a; obtain ⟨b, rfl⟩ := NF.rep b; obtain ⟨c, rfl⟩ := NF.rep c; exact congrArg F.cl (show a + b + c = a + (b + c) by grind)
  ng_ad a := by obtain ⟨a, rfl⟩ := NF.rep a; exact congrArg F.cl (show -a + a = 0 by grind)
  ml_a a b c := by obtain ⟨a, rfl⟩ := NF.rep a; obtain ⟨b, rfl⟩ := NF.rep b; obtain ⟨c, rfl⟩ := NF.rep c; exact congrArg F.cl (show a * b * c = a * (b * c) by grind)
  ml_c a b := by obtain ⟨a, rfl⟩ := NF.rep a; obtain ⟨b, rfl⟩ := NF.rep b; exact congrArg F.cl (show a * b = b * a by grind)
  ml_o a := by obtain ⟨a, rfl⟩ := NF.rep a; exact congrArg F.cl (show a * 1 = a by grind)
  ds a b c := by obtain ⟨a, rfl⟩ := NF.rep a; obtain ⟨b, rfl⟩ := NF.rep b; obtain ⟨c, rfl⟩ := NF.rep c; exact congrArg F.cl (show a * (b + c) = a * b + a * c by grind)
instance : Lean.Grind.CommRing F.R := F.rd.ring
instance : IntCast F.R := Lean.Grind.Ring.intCast
instance : NatCast F.R := Lean.Grind.Semiring.natCast
theorem NF.cl_add (a b : PZ) : F.cl (a + b) = F.cl a + F.cl b := rfl
theorem NF.cl_mul (a b : PZ) : F.cl (a * b) = F.cl a * F.cl b := rfl
theorem NF.cl_neg (a : PZ) : F.cl (-a) = -F.cl a := rfl
theorem NF.cl_zero : F.cl 0 = 0 := rfl
theorem NF.cl_sub (a b : PZ) : F.cl (a - b) = F.cl a - F.cl b := by
  rw [Lean.Grind.Ring.sub_eq_add_neg, Lean.Grind.Ring.sub_eq_add_neg]; rfl
theorem NF.cl_natR : ∀ k : Nat, F.cl (PZ.rd.nat k) = F.rd.nat k
  | 0 => rfl
  | k + 1 => by rw [RD.nat_succ, RD.nat_succ, ← NF.cl_natR k]; rfl
theorem NF.cl_int : ∀ i : Int, F.cl (i : PZ) = (i : F.R)
  | .ofNat k => NF.cl_natR k
  | .negSucc k => by
    show F.cl (-(PZ.rd.nat (k + 1))) = -(F.rd.nat (k + 1))
    rw [NF.cl_neg, NF.cl_natR]
theorem NF.cl_f : F.cl F.f = 0 := NF.cl_eq.mpr ⟨1, by grind⟩
theorem NF.cl_pow (a : PZ) : ∀ k : Nat, F.cl (a ^ k) = F.cl a ^ k
  | 0 => rfl
  | k + 1 => by rw [Lean.Grind.Semiring.pow_succ, Lean.Grind.Semiring.pow_succ, NF.cl_mul, NF.cl_pow a k]
/-! ### places -/
theorem NF.low (x : F.R) : ∃ r : PZ, r.Bd F.n ∧ x = F.cl r := by
  obtain ⟨a, rfl⟩ := NF.rep x
  obtain ⟨q, s, h1, h2⟩ := PZ.mdiv F.mon a
  exact ⟨s, h2, NF.cl_eq.mpr ⟨q, by grind⟩⟩
theorem NF.low_uniq {r s : PZ} (hr : r.Bd F.n) (hs : s.Bd F.n) (h : F.cl r = F.cl s) : r = s := by
  obtain ⟨u, hu⟩ := NF.cl_eq.mp h
  exact (PZ.mdiv_uniq F.mon (q := 0) (s := r) (q' := u) (s' := s) (by grind) hr hs).2
noncomputable def NF.lo (x : F.R) : PZ := Classical.choose (NF.low x)
theorem NF.lo_bd (x : F.R) : (NF.lo x).Bd F.n := (Classical.choose_spec (NF.low x)).1
theorem NF.cl_lo (x : F.R) : F.cl (NF.lo x) = x := (Classical.choose_spec (NF.low x)).2.symm
theorem NF.lo_mk {r : PZ} (h : r.Bd F.n) : NF.lo (F.cl r) = r := NF.low_uniq (NF.lo_bd _) h (NF.cl_lo _)
theorem NF.lo_add (x y : F.R) : NF.lo (x + y) = NF.lo x + NF.lo y := NF.low_uniq (NF.lo_bd _) ((NF.lo_bd x).add (NF.lo_bd y)) (by rw [NF.cl_lo, NF.cl_add, NF.cl_lo, NF.cl_lo])
theorem NF.lo_sub (x y : F.R) : NF.lo (x - y) = NF.lo x - NF.lo y := NF.low_uniq (NF.lo_bd _) ((NF.lo_bd x).sub (NF.lo_bd y)) (by rw [NF.cl_lo, NF.cl_sub, NF.cl_lo, NF.cl_lo])
theorem NF.lo_int_mul (c : Int) (x : F.R) : NF.lo ((c : F.R) * x) = (c : PZ) * NF.lo x := NF.low_uniq (NF.lo_bd _) ((NF.lo_bd x).int c) (by rw [NF.cl_lo, NF.cl_mul, NF.cl_lo, NF.cl_int])
theorem NF.lo_zero : NF.lo (0 : F.R) = 0 := NF.lo_mk (F := F) (PZ.bd_zero _)
/-- place t of a number -/
noncomputable def NF.co (x : F.R) (t : Nat) : Int := (NF.lo x).co t
theorem NF.co_out (x : F.R) {t : Nat} (h : F.n ≤ t) : NF.co x t = 0 := NF.lo_bd x t h
theorem NF.co_add (x y : F.R) (t : Nat) : NF.co (x + y) t = NF.co x t + NF.co y t := by unfold NF.co; rw [NF.lo_add, PZ.co_add]
theorem NF.co_sub (x y : F.R) (t : Nat) : NF.co (x - y) t = NF.co x t - NF.co y t := by unfold NF.co; rw [NF.lo_sub, PZ.co_sub]
theorem NF.co_int_mul (c : Int) (x : F.R) (t : Nat) : NF.co ((c : F.R) * x) t = c * NF.co x t := by unfold NF.co; rw [NF.lo_int_mul, PZ.co_int_mul]
theorem NF.co_zero (t : Nat) : NF.co (0 : F.R) t = 0 := by unfold NF.co; rw [NF.lo_zero]; rfl
theorem NF.ext {x y : F.R} (h : ∀ t, t < F.n → NF.co x t = NF.co y t) : x = y := by
  rw [← NF.cl_lo x, ← NF.cl_lo y]
  congr 1
  exact PZ.ext fun t => by
    by_cases ht : t < F.n
    · exact h t ht
    · rw [NF.lo_bd x t (by omega), NF.lo_bd y t (by omega)]
theorem NF.int_cancel {c : Int} (hc : c ≠ 0) {x y : F.R} (h : (c : F.R) * x = (c : F.R) * y) : x = y := NF.ext fun t _ => by
  have := congrArg (fun z => NF.co z t) h
  simp only [NF.co_int_mul] at this
  exact Int.eq_of_mul_eq_mul_left hc this
/-- a row as a number -/
def NF.vec (F : NF) (l : List Int) : F.R := F.cl (PZ.of l)
theorem NF.co_vec {l : List Int} (h : l.length = F.n) (t : Nat) : NF.co (F.vec l) t = T.co l t := by
  unfold NF.co NF.vec
  rw [NF.lo_mk (by rw [← h]; exact PZ.of_bd l)]
  rfl
noncomputable def NF.row (x : F.R) : List Int := (NF.lo x).row F.n
theorem NF.row_len (x : F.R) : (NF.row x).length = F.n := PZ.row_len _ _
theorem NF.vec_row (x : F.R) : F.vec (NF.row x) = x := by
  unfold NF.vec NF.row
  rw [PZ.of_row (NF.lo_bd x), NF.cl_lo]
theorem NF.row_vec {l : List Int} (h : l.length = F.n) : NF.row (F.vec l) = l := by
  unfold NF.vec NF.row
  rw [NF.lo_mk (by rw [← h]; exact PZ.of_bd l), PZ.row_of h]
theorem NF.vec_inj {l m : List Int} (h : l.length = F.n) (g : m.length = F.n) (e : F.vec l = F.vec m) : l = m := by rw [← NF.row_vec h, ← NF.row_vec g, e]
theorem NF.co_intC (hn : F.n ≠ 0) (c : Int) (t : Nat) : NF.co (c : F.R) t = if t = 0 then c else 0 := by
  unfold NF.co
  rw [← NF.cl_int, NF.lo_mk (fun t ht => by rw [PZ.co_int, if_neg (by omega)]), PZ.co_int]
/-- p divides all places -/
def NF.Dvp (p : Int) (x : F.R) : Prop := ∀ t, p ∣ NF.co x t
theorem NF.dvp_iff {p : Int} {x : F.R} : NF.Dvp p x ↔ ∃ y : F.R, x = (p : F.R) * y := by
  constructor
  · intro h
    obtain ⟨b, e⟩ := PZ.dvp_iff.mp (show (NF.lo x).Dvp p from h)
    exact ⟨F.cl b, by rw [← NF.cl_int, ← NF.cl_mul, ← e, NF.cl_lo]⟩
  · rintro ⟨y, rfl⟩ t
    rw [NF.co_int_mul]
    exact Int.dvd_mul_right p _
/-! ### where the polynomial does not fall apart -/
def NF.Irr (F : NF) : Prop := ∀ m, 1 ≤ m → m < F.n → ∀ q d : PZ, q.Mon (F.n - m) → d.Mon m → F.f ≠ q * d
theorem NF.inv (hi : F.Irr) (y : F.R) (hy : y ≠ 0) : ∃ (w : F.R) (c : Int), c ≠ 0 ∧ w * y = (c : F.R) := by
  -- the least degree of a multiple
  have key : ∀ (N : Nat) (d : F.R), d ≠ 0 → (∃ w, d = w * y) → (NF.lo d).Bd N → ∃ (w : F.R) (c : Int), c ≠ 0 ∧ w * y = (c : F.R) := by
    intro N
    induction N with
    | zero => exact fun d hd _ hb => absurd (by rw [← NF.cl_lo d, show NF.lo d = 0 from PZ.ext fun t => hb t (Nat.zero_le _), NF.cl_zero]) hd
    | succ N ih =>
      intro d hd ⟨w, hw⟩ hb
      by_cases ht : (NF.lo d).co N = 0
      · refine ih d hd ⟨w, hw⟩ fun t htt => ?_
        by_cases e : t = N
        · rw [e]; exact ht
        · exact hb t (by omega)
      · cases N with
        | zero =>
          refine ⟨w, (NF.lo d).co 0, ht, ?_⟩
          rw [← hw, ← NF.cl_int, ← NF.cl_lo d]
          congr 1
          rw [NF.cl_lo]
          exact PZ.ext fun t => by
            rw [PZ.co_int]
            cases t with
            | zero => rfl
            | succ t => rw [hb _ (by omega), if_neg (by omega)]
        | succ N =>
          have hlt : N + 1 < F.n := by
            apply Classical.byContradiction
            intro z
            exact ht (NF.lo_bd d _ (by omega))
          obtain ⟨k, q, s, h1, h2⟩ := PZ.pdiv hb (F.n + 1) F.f F.mon.bd
          have hc : ((NF.lo d).co (N + 1) ^ k : Int) ≠ 0 := Int.pow_ne_zero ht
          by_cases hs : s = 0
          · obtain ⟨hm, q', d', m1, m2, m3⟩ := PZ.gauss F.mon _ _ q (NF.lo d) (N + 1) (Nat.le_refl _) hc hb ht (by grind)
            exact absurd m3 (hi (N + 1) (by omega) hlt q' d' m1 m2)
          · have hsb : s.Bd F.n := h2.mono (by omega)
            refine ih (F.cl s) (fun z => hs ?_) ⟨-(F.cl q * w), ?_⟩ (by rw [NF.lo_mk hsb]; exact h2)
            · exact NF.low_uniq hsb (PZ.bd_zero _) z
            · have e := congrArg F.cl h1
              rw [NF.cl_mul, NF.cl_f, NF.cl_add, NF.cl_mul, NF.cl_lo, hw] at e
              grind
  exact key F.n y hy ⟨1, by grind⟩ (NF.lo_bd y)
theorem NF.domain (hi : F.Irr) {x y : F.R} (h : x * y = 0) : x = 0 ∨ y = 0 := by
  by_cases hx : x = 0
  · exact .inl hx
  · obtain ⟨w, c, hc, e⟩ := NF.inv hi x hx
    refine .inr (NF.int_cancel hc ?_)
    rw [← e]
    grind
theorem NF.cancel (hi : F.Irr) {a x y : F.R} (ha : a ≠ 0) (h : a * x = a * y) : x = y := by
  rcases NF.domain hi (show a * (x - y) = 0 by grind) with z | z
  · exact absurd z ha
  · grind
theorem NF.pow_ne (hi : F.Irr) {a : F.R} (ha : a ≠ 0) : ∀ k : Nat, a ^ k ≠ 0
  | 0 => fun z => by
    have : NF.co (1 : F.R) 0 = 0 := by rw [show (1 : F.R) = 0 from z, NF.co_zero]
    rw [show (1 : F.R) = ((1 : Int) : F.R) from rfl, NF.co_intC (by have := F.pos; omega)] at this
    simp at this
  | k + 1 => fun z => by
    rw [Lean.Grind.Semiring.pow_succ] at z
    rcases NF.domain hi z with z | z
    · exact NF.pow_ne hi ha k z
    · exact ha z
end
end T
set_option maxRecDepth 100000
set_option maxHeartbeats 4000000
namespace T
open PySem PySem.Spec PyProof.Rows L2
/-! ### rows and the ring of a polynomial -/
theorem cl_iff {F : NF} {f p q : List Int} (hf : PZ.of f = F.f) : Cf f p q ↔ F.cl (PZ.of p) = F.cl (PZ.of q) := by
  constructor
  · rintro ⟨u, h⟩
    exact NF.cl_eq.mpr ⟨PZ.of u, PZ.ext fun t => by rw [PZ.co_add, ← hf]; exact h t⟩
  · intro h
    obtain ⟨u, hu⟩ := NF.cl_eq.mp h
    obtain ⟨u, rfl⟩ := PZ.rep u
    refine ⟨u, fun t => ?_⟩
    have := congrArg (fun x => PZ.co x t) hu
    simp only [PZ.co_add, ← hf] at this
    exact this
/-- the ring of a row that ends with 1 -/
structure NfOf (F : NF) (f : List Int) (n : Nat) : Prop where
  f : PZ.of f = F.f
  n : F.n = n
section
variable {F : NF} {f : List Int} {n : Nat}
theorem NfOf.mul (h : NfOf F f n) {x y z : List Int} (e : Cf f z (mulP x y)) : F.vec z = F.vec x * F.vec y := (cl_iff h.f).mp e
theorem NfOf.eq (h : NfOf F f n) {x y : List Int} (hx : x.length = n) (hy : y.length = n) (e : F.vec x = F.vec y) : x = y := NF.vec_inj (by rw [h.n]; exact hx) (by rw [h.n]; exact hy) e
theorem vec_zero (k : Nat) : F.vec (List.replicate k 0) = 0 := by
  show F.cl _ = F.cl 0
  congr 1
  exact PZ.ext fun t => co_rep0 k t
theorem vec_int (c : Int) (k : Nat) : F.vec (c :: List.replicate k 0) = (c : F.R) := by
  rw [← NF.cl_int]
  show F.cl _ = F.cl _
  congr 1
  refine PZ.ext fun t => ?_
  rw [PZ.co_int]
  show co (c :: List.replicate k 0) t = _
  cases t with
  | zero => rfl
  | succ t => rw [co_succ, co_rep0, if_neg (by omega)]
theorem vec_scale (c : Int) (x : List Int) : F.vec (x.map (c * ·)) = (c : F.R) * F.vec x := by
  show F.cl (PZ.of (scaleP c x)) = _
  rw [PZ.of_scale, NF.cl_mul, NF.cl_int]
  rfl
/-! ### where it does not fall apart -/
theorem mon1_row {d : PZ} (h : d.Mon 1) : d = PZ.of [d.co 0, 1] := PZ.ext fun t => by
  match t with
  | 0 => rfl
  | 1 => exact h.top
  | t + 2 => rw [h.bd _ (by omega)]; rfl
theorem mon2_row {d : PZ} (h : d.Mon 2) : d = PZ.of [d.co 0, d.co 1, 1] := PZ.ext fun t => by
  match t with
  | 0 => rfl
  | 1 => rfl
  | 2 => exact h.top
  | t + 3 => rw [h.bd _ (by omega)]; rfl
/-! ### norms -/
theorem IsTab.ex {y : List Int} (hf : f.length = n + 1) (h1 : co f n = 1) (hn : 1 ≤ n) (hy : y.length = n) (h : NfOf F f n) : ∃ U, IsTab f y n U := by
  refine ⟨(List.range n).map fun k => NF.row (F.cl (PZ.of (shiftP k y))), by simp, fun k r hk => ?_⟩
  rw [List.getElem?_map] at hk
  have hkl : k < n := by
    by_cases z : k < n
    · exact z
    · rw [List.getElem?_eq_none (by simp; omega)] at hk; cases hk
  rw [List.getElem?_range hkl] at hk
  obtain rfl : _ = r := Option.some.inj hk
  refine ⟨by rw [NF.row_len, h.n], (cl_iff h.f).mpr ?_⟩
  exact NF.vec_row _
theorem tab_norm_int {c : Int} {U : List (List Int)} (hf : f.length = n + 1) (h1 : co f n = 1) (h2 : 2 ≤ n) (h4 : n ≤ 4) (hU : IsTab f (c :: List.replicate (n - 1) 0) n U) : dz n U = c ^ n := by
  have hV : IsTab f (c :: List.replicate (n - 1) 0) n ((List.range n).map fun k => (List.range n).map fun t => if t = k then c else 0) := by
    refine ⟨by simp, fun k r hk => ?_⟩
    rw [List.getElem?_map] at hk
    have hkl : k < n := by
      by_cases z : k < n
      · exact z
      · rw [List.getElem?_eq_none (by simp; omega)] at hk; cases hk
    rw [List.getElem?_range hkl] at hk
    obtain rfl : _ = r := Option.some.inj hk
    refine ⟨by simp, .of fun t => ?_⟩
    rw [co_mapRange]
    unfold shiftP
    by_cases htk : t < k
    · rw [co_append_l (by simpa using htk), co_rep0]
      by_cases htn : t < n
      · rw [if_pos htn, if_neg (by omega)]
      · rw [if_neg htn]
    · rw [co_append_r (by simpa using htk), List.length_replicate]
      by_cases e : t = k
      · subst e; rw [if_pos hkl, if_pos rfl, Nat.sub_self]; rfl
      · obtain ⟨j, hj⟩ : ∃ j, t - k = j + 1 := ⟨t - k - 1, by omega⟩
        rw [hj, co_succ, co_rep0]
        by_cases htn : t < n
        · rw [if_pos htn, if_neg e]
        · rw [if_neg htn]
  rw [IsTab.uniq hf h1 hU hV]
  have hn : n = 2 ∨ n = 3 ∨ n = 4 := by omega
  rcases hn with rfl | rfl | rfl
  · rw [show ((List.range 2).map fun k => (List.range 2).map fun t => if t = k then c else (0 : Int)) = [[c, 0], [0, c]] from rfl]
    simp [dz, minorZ, co, List.range_succ]
    grind
  · rw [show ((List.range 3).map fun k => (List.range 3).map fun t => if t = k then c else (0 : Int)) = [[c, 0, 0], [0, c, 0], [0, 0, c]] from rfl, dz3]
    unfold D3
    simp [co]
    grind
  · rw [show ((List.range 4).map fun k => (List.range 4).map fun t => if t = k then c else (0 : Int)) = [[c, 0, 0, 0], [0, c, 0, 0], [0, 0, c, 0], [0, 0, 0, c]] from rfl, dz4]
    unfold D4
    simp [co]
    grind
/-- no norm is nought but nought's -/
theorem norm_ne (h : NfOf F f n) (hi : F.Irr) (hf : f.length = n + 1) (h1 : co f n = 1) (h2 : 2 ≤ n) (h4 : n ≤ 4) {y : List Int} (hy : y.length = n) {A : List (List Int)} (hA : IsTab f y n A) (hne : F.vec y ≠ 0) : dz n A ≠ 0 := by
  obtain ⟨w, c, hc, e⟩ := NF.inv hi _ hne
  have hw : (NF.row w).length = n := by rw [NF.row_len, h.n]
  obtain ⟨W, hW⟩ := IsTab.ex (y := NF.row w) hf h1 (by omega) hw h
  obtain ⟨C, hC⟩ := IsTab.ex (y := c :: List.replicate (n - 1) 0) hf h1 (by omega) (by simp; omega) h
  have hz : Cf f (c :: List.replicate (n - 1) 0) (mulP (NF.row w) y) := by
    rw [cl_iff h.f]
    have : F.vec (c :: List.replicate (n - 1) 0) = F.vec (NF.row w) * F.vec y := by rw [vec_int, NF.vec_row, e]
    exact this
  have := dz_mul h2 h4 hW.1 hA.1 hC.1 (fun r hr => hW.mem r hr) fun k hk t _ => IsTab.mul hf h1 hW hA hC hz k hk t
  rw [tab_norm_int hf h1 h2 h4 hC] at this
  intro z
  rw [z, Int.mul_zero] at this
  exact Int.pow_ne_zero hc this
end
/-! ### rings that are made -/
theorem ring_inv {f : List Int} {r : Rg} (h : m_Ring f = ok r) : r.1 = f ∧ RgOk r ∧ m_apart f = ok none ∧ m_measure f = ok r.2.2 ∧ m_outside f r.2.2 = ok none := by
  have hr := ring_ok_of h
  unfold m_Ring at h
  rcases bind_some h with ⟨o, eo, h⟩ | ⟨_, _, h⟩
  · cases o with
    | some q =>
      rw [bind_ok, if_pos (show (some q).isSome = true from rfl)] at h
      cases h
    | none =>
      rw [bind_ok, if_neg (show ¬ (none : Option (List Int × List Int)).isSome = true from fun z => nomatch z), bind_ok] at h
      rcases bind_some h with ⟨size, es, h⟩ | ⟨_, _, h⟩
      · rw [bind_ok] at h
        by_cases hb : decide (c_GREATEST < (size.natAbs : Int)) = true
        · rw [if_pos hb] at h; cases h
        · rw [if_neg hb, bind_ok] at h
          rcases bind_some h with ⟨l, el, h⟩ | ⟨_, _, h⟩
          · cases l with
            | some q =>
              rw [bind_ok, if_pos (show (some q).isSome = true from rfl)] at h
              cases h
            | none =>
              rw [bind_ok, if_neg (show ¬ (none : Option (Int × List Int)).isSome = true from fun z => nomatch z), bind_ok] at h
              cases h
              exact ⟨rfl, hr, eo, es, el⟩
          · cases h
      · cases h
  · cases h
/-- a ring that was made -/
structure RgG (r : Rg) : Prop where
  rok : RgOk r
  made : m_Ring r.1 = T.ok r
theorem RgG.of {f : List Int} {r : Rg} (h : m_Ring f = T.ok r) : RgG r := by
  obtain ⟨rfl, hr, _⟩ := ring_inv h
  exact ⟨hr, h⟩
end T
set_option maxRecDepth 100000
set_option maxHeartbeats 4000000
namespace T
open PySem PySem.Spec PyProof.Rows L2
/-! ### quotients of numbers -/
section
variable {r : Rg} {F : NF} {x y : List Int} {n b c : Nat} {A : List (List Int)}
/-- the number times its mate -/
theorem vec_mate (hF : NfOf F r.1 n) (hl : r.1.length = n + 1) (h1 : co r.1 n = 1) (h2 : 2 ≤ n) (h4 : n ≤ 4) (hy : y.length = n) (hA : IsTab r.1 y n A) (lm : (mateL n A).length = n) : F.vec (mateL n A) * F.vec y = ((dz n A : Int) : F.R) := by
  have h := mate_mul h2 h4 hA.1 hA.mem
  have hc := rowMul_cf hA lm
  rw [h] at hc
  rw [← hF.mul hc, vec_int]
end
end T
set_option maxRecDepth 100000
set_option maxHeartbeats 4000000
namespace T
open PySem PySem.Spec PyProof.Rows L2
/-! ### a list built place by place; the minors of the first column -/
end T
set_option maxRecDepth 100000
set_option maxHeartbeats 4000000
namespace T
open PySem PySem.Spec PyProof.Rows L2
/-! ### polynomials modulo a prime, as polynomials over Z -/
def Eqp (p : Int) (a b : PZ) : Prop := ∃ c : PZ, a = b + (p : PZ) * c
def Dvm (p : Int) (g a : PZ) : Prop := ∃ q c : PZ, a = q * g + (p : PZ) * c
section
variable {p : Int} {a b c d g h : PZ}
theorem Eqp.refl (p : Int) (a : PZ) : Eqp p a a := ⟨0, by grind⟩
theorem Eqp.symm : Eqp p a b → Eqp p b a := fun ⟨c, e⟩ => ⟨-c, by grind⟩
theorem Eqp.trans : Eqp p a b → Eqp p b c → Eqp p a c := fun ⟨u, e⟩ ⟨v, f⟩ => ⟨u + v, by grind⟩
theorem Eqp.add : Eqp p a b → Eqp p c d → Eqp p (a + c) (b + d) := fun ⟨u, e⟩ ⟨v, f⟩ => ⟨u + v, by grind⟩
theorem Eqp.mul : Eqp p a b → Eqp p c d → Eqp p (a * c) (b * d) := fun ⟨u, e⟩ ⟨v, f⟩ => ⟨u * d + v * b + (p : PZ) * u * v, by grind⟩
theorem Eqp.pow (h : Eqp p a b) : ∀ k : Nat, Eqp p (a ^ k) (b ^ k)
  | 0 => by rw [Lean.Grind.Semiring.pow_zero, Lean.Grind.Semiring.pow_zero]; exact .refl _ _
  | k + 1 => by rw [Lean.Grind.Semiring.pow_succ, Lean.Grind.Semiring.pow_succ]; exact (Eqp.pow h k).mul h
theorem Eqp.iff : Eqp p a b ↔ (a - b).Dvp p := by
  rw [PZ.dvp_iff]
  exact ⟨fun ⟨c, e⟩ => ⟨c, by grind⟩, fun ⟨c, e⟩ => ⟨c, by grind⟩⟩
theorem Eqp.cg {f g : List Int} : Eqp p (PZ.of f) (PZ.of g) ↔ CgP p f g := by
  rw [Eqp.iff]
  constructor
  · intro h t
    obtain ⟨k, e⟩ := h t
    rw [PZ.co_sub, PZ.co_of, PZ.co_of] at e
    exact ⟨k, by omega⟩
  · intro h t
    obtain ⟨k, e⟩ := h t
    rw [PZ.co_sub, PZ.co_of, PZ.co_of]
    exact ⟨k, by omega⟩
theorem Dvm.self : Dvm p g g := ⟨1, 0, by grind⟩
theorem Dvm.zero : Dvm p g 0 := ⟨0, 0, by grind⟩
theorem Dvm.of_dvp (h : a.Dvp p) : Dvm p g a := by
  obtain ⟨c, e⟩ := PZ.dvp_iff.mp h
  exact ⟨0, c, by grind⟩
theorem Dvm.congr (e : Eqp p a b) : Dvm p g a → Dvm p g b := fun ⟨q, c, h⟩ => by
  obtain ⟨u, e⟩ := e
  exact ⟨q, c - u, by grind⟩
theorem Dvm.congr_l (e : Eqp p g h) : Dvm p g a → Dvm p h a := fun ⟨q, c, f⟩ => by
  obtain ⟨u, e⟩ := e
  exact ⟨q, c + q * u, by grind⟩
theorem Dvm.add : Dvm p g a → Dvm p g b → Dvm p g (a + b) := fun ⟨q, c, e⟩ ⟨r, d, f⟩ => ⟨q + r, c + d, by grind⟩
theorem Dvm.sub : Dvm p g a → Dvm p g b → Dvm p g (a - b) := fun ⟨q, c, e⟩ ⟨r, d, f⟩ => ⟨q - r, c - d, by grind⟩
theorem Dvm.mul (b : PZ) : Dvm p g a → Dvm p g (b * a) := fun ⟨q, c, e⟩ => ⟨b * q, b * c, by grind⟩
theorem Dvm.mul_r (b : PZ) : Dvm p g a → Dvm p g (a * b) := fun ⟨q, c, e⟩ => ⟨b * q, b * c, by grind⟩
theorem Dvm.trans : Dvm p g h → Dvm p h a → Dvm p g a := fun ⟨q, c, e⟩ ⟨r, d, f⟩ => ⟨r * q, r * c + d, by grind⟩
theorem Dvm.left : Dvm p g (g * a) := ⟨a, 0, by grind⟩
theorem Dvm.right : Dvm p g (a * g) := ⟨a, 0, by grind⟩
/-- a prime with inverses -/
structure InvP (p : Int) : Prop where
  pr : PrI p
  inv : ∀ c : Int, ¬ p ∣ c → ∃ d k : Int, c * d = 1 + p * k
theorem invP_of {p : Int} (h : p ∈ primesL) : InvP p := by
  have hP := isP_of h
  have inv : ∀ c : Int, ¬ p ∣ c → ∃ d k : Int, c * d = 1 + p * k := fun c hc => by
    have h0 : c % p ≠ 0 := fun z => hc (Int.dvd_of_emod_eq_zero z)
    obtain ⟨t, _, _, _, k, e⟩ := turned_ok hP.1 (by have := hP.1; have := hP.2.1; omega) (hP.2.2 c h0)
    exact ⟨t, k, by rw [Int.mul_comm, e]⟩
  refine ⟨⟨hP.1, fun a b hab => ?_⟩, inv⟩
  by_cases ha : p ∣ a
  · exact .inl ha
  · obtain ⟨d, k, e⟩ := inv a ha
    right
    obtain ⟨m, hm⟩ := hab
    exact ⟨m * d - k * b, by grind⟩
/-- monic, and no product modulo p -/
structure Irp (p : Int) (g : PZ) (m : Nat) : Prop where
  mon : g.Mon m
  pos : 1 ≤ m
  no : ∀ (k : Nat) (d : PZ), 1 ≤ k → k < m → d.Mon k → ¬ Dvm p d g
theorem irp_lin (r : Int) : Irp p (PZ.of [r, 1]) 1 := ⟨⟨fun t ht => co_out ht, rfl⟩, Nat.le_refl _, fun k d h1 h2 => by omega⟩
theorem xp_co (N t : Nat) : (PZ.xp N).co t = if t = N then 1 else 0 := by
  have := PZ.co_xp N 1 t
  rw [show PZ.xp N * 1 = PZ.xp N by grind] at this
  rw [this]
  by_cases h : N ≤ t
  · rw [if_pos h, PZ.co_one]
    by_cases e : t = N
    · rw [if_pos e, if_pos (by omega)]
    · rw [if_neg e, if_neg (by omega)]
  · rw [if_neg h, if_neg (by omega)]
theorem bezout (hp : InvP p) {m : Nat} (hg : Irp p g m) (h : ¬ Dvm p g a) : ∃ u v c : PZ, 1 = u * g + v * a + (p : PZ) * c := by
  have key : ∀ (N : Nat) (d : PZ), N ≤ m + 1 → ¬ d.Dvp p → (∃ u v c : PZ, d = u * g + v * a + (p : PZ) * c) → d.Bd N → ∃ u v c : PZ, 1 = u * g + v * a + (p : PZ) * c := by
    intro N
    induction N with
    | zero => exact fun d _ hd _ hb => absurd (fun t => by rw [hb t (Nat.zero_le _)]; exact Int.dvd_zero p) hd
    | succ N ih =>
      intro d hN hd ⟨u, v, c, e⟩ hb
      by_cases ht : p ∣ d.co N
      · obtain ⟨k, hk⟩ := ht
        have e1 : d - (p : PZ) * ((k : PZ) * PZ.xp N) = u * g + v * a + (p : PZ) * (c - (k : PZ) * PZ.xp N) := by grind
        refine ih (d - (p : PZ) * ((k : PZ) * PZ.xp N)) (by omega) (fun z => hd fun t => ?_) ⟨u, v, _, e1⟩ fun t htt => ?_
        · have := z t
          rw [PZ.co_sub, PZ.co_int_mul] at this
          have h2 := Int.dvd_add this (Int.dvd_mul_right p (PZ.co ((k : PZ) * PZ.xp N) t))
          rwa [Int.sub_add_cancel] at h2
        · rw [PZ.co_sub, PZ.co_int_mul, PZ.co_int_mul, xp_co]
          by_cases et : t = N
          · rw [if_pos et, et, hk, Int.mul_one]; omega
          · rw [if_neg et, hb t (by omega), Int.mul_zero, Int.mul_zero]; rfl
      · obtain ⟨s, k, hs⟩ := hp.inv _ ht
        -- monic
        have hm : ((s : PZ) * d - (p : PZ) * ((k : PZ) * PZ.xp N)).Mon N := by
          refine ⟨fun t htt => ?_, ?_⟩
          · rw [PZ.co_sub, PZ.co_int_mul, PZ.co_int_mul, PZ.co_int_mul, xp_co, if_neg (by omega), hb t htt, Int.mul_zero, Int.mul_zero, Int.mul_zero]; rfl
          · rw [PZ.co_sub, PZ.co_int_mul, PZ.co_int_mul, PZ.co_int_mul, xp_co, if_pos rfl, Int.mul_one, Int.mul_comm s, hs]; omega
        have e1 : (s : PZ) * d - (p : PZ) * ((k : PZ) * PZ.xp N) = ((s : PZ) * u) * g + ((s : PZ) * v) * a + (p : PZ) * ((s : PZ) * c - (k : PZ) * PZ.xp N) := by grind
        generalize (s : PZ) * d - (p : PZ) * ((k : PZ) * PZ.xp N) = d1 at hm e1
        generalize (s : PZ) * u = u1 at e1
        generalize (s : PZ) * v = v1 at e1
        generalize (s : PZ) * c - (k : PZ) * PZ.xp N = c1 at e1
        cases N with
        | zero =>
          have : d1 = 1 := PZ.ext fun t => by
            rw [PZ.co_one]
            cases t with
            | zero => exact hm.top
            | succ t => rw [hm.bd _ (by omega), if_neg (by omega)]
          exact ⟨u1, v1, c1, by rw [← this, e1]⟩
        | succ N =>
          obtain ⟨q, s1, f1, b1⟩ := PZ.mdiv hm g
          obtain ⟨q', s2, f2, b2⟩ := PZ.mdiv hm a
          by_cases z1 : s1.Dvp p
          · by_cases z2 : s2.Dvp p
            · obtain ⟨w1, x1⟩ := PZ.dvp_iff.mp z1
              obtain ⟨w2, x2⟩ := PZ.dvp_iff.mp z2
              by_cases hlt : N + 1 < m
              · exact absurd ⟨q, w1, by rw [f1, x1]⟩ (hg.no (N + 1) d1 (by omega) hlt hm)
              · have hNm : N + 1 = m := by omega
                subst hNm
                have := PZ.mdiv_uniq hm (q := q) (s := s1) (q' := 1) (s' := g - d1) (by grind) b1 (fun t htt => by
                  rw [PZ.co_sub]
                  by_cases et : t = N + 1
                  · rw [et, hg.mon.top, hm.top]; rfl
                  · rw [hg.mon.bd t (by omega), hm.bd t (by omega)]; rfl)
                obtain ⟨rfl, hs1⟩ := this
                exact absurd ⟨q', w2 - q' * w1, by grind⟩ h
            · exact ih s2 (by omega) z2 ⟨-(q' * u1), 1 - q' * v1, -(q' * c1), by grind⟩ b2
          · exact ih s1 (by omega) z1 ⟨1 - q * u1, -(q * v1), -(q * c1), by grind⟩ b1
  refine key (m + 1) g (Nat.le_refl _) (fun z => ?_) ⟨1, 0, 0, by grind⟩ hg.mon.bd
  have := z m
  rw [hg.mon.top] at this
  have h1 := hp.pr.1
  have := Int.le_of_dvd (by decide) this
  omega
theorem Irp.prime (hp : InvP p) {m : Nat} (hg : Irp p g m) (h : Dvm p g (a * b)) : Dvm p g a ∨ Dvm p g b := by
  by_cases ha : Dvm p g a
  · exact .inl ha
  · obtain ⟨u, v, c, e⟩ := bezout hp hg ha
    obtain ⟨q, d, f⟩ := h
    exact .inr ⟨b * u + v * q, v * d + b * c, by grind⟩
theorem Irp.ndv_one (hp : InvP p) {m : Nat} (hg : Irp p g m) : ¬ Dvm p g 1 := fun ⟨q, c, e⟩ => by
  by_cases hq : q.Dvp p
  · obtain ⟨q1, hq⟩ := PZ.dvp_iff.mp hq
    have : (1 : PZ).Dvp p := PZ.dvp_iff.mpr ⟨q1 * g + c, by grind⟩
    have := this 0
    rw [PZ.co_one, if_pos rfl] at this
    have h1 := hp.pr.1
    have := Int.le_of_dvd (by decide) this
    omega
  · obtain ⟨n, a1, a2, e1, d1, t1⟩ := PZ.not_dvp hq
    have ht := (PZ.mul_top d1 hg.mon.bd).2
    have hm := hg.pos
    have e2 : a1 * g = 1 - (p : PZ) * (c + a2 * g) := by grind
    rw [e2, PZ.co_sub, PZ.co_one, if_neg (by omega), PZ.co_int_mul, hg.mon.top, Int.mul_one] at ht
    exact t1 ⟨-(c + a2 * g).co (n + m), by rw [← ht, Int.mul_neg]; omega⟩
theorem Irp.pow (hp : InvP p) {m : Nat} (hg : Irp p g m) : ∀ k : Nat, Dvm p g (a ^ k) → Dvm p g a
  | 0, h => by
    rw [Lean.Grind.Semiring.pow_zero] at h
    exact absurd h (hg.ndv_one hp)
  | k + 1, h => by
    rw [Lean.Grind.Semiring.pow_succ] at h
    rcases hg.prime hp h with z | z
    · exact hg.pow hp k z
    · exact z
theorem bezout_pow (hp : InvP p) {m : Nat} (hg : Irp p g m) (h : ¬ Dvm p g a) : ∀ k : Nat, ∃ u v c : PZ, 1 = u * g ^ k + v * a + (p : PZ) * c
  | 0 => ⟨1, 0, 0, by rw [Lean.Grind.Semiring.pow_zero]; grind⟩
  | k + 1 => by
    obtain ⟨u, v, c, e⟩ := bezout hp hg h
    obtain ⟨u1, v1, c1, e1⟩ := bezout_pow hp hg h k
    refine ⟨u1 * u, v1 * (u * g + v * a + (p : PZ) * c) + u1 * g ^ k * v, c1 * (u * g + v * a + (p : PZ) * c) + u1 * g ^ k * c, ?_⟩
    rw [Lean.Grind.Semiring.pow_succ]
    grind
theorem Irp.cancel (hp : InvP p) {m : Nat} (hg : Irp p g m) (h : ¬ Dvm p g a) {k : Nat} (hd : Dvm p (g ^ k) (a * b)) : Dvm p (g ^ k) b := by
  obtain ⟨u, v, c, e⟩ := bezout_pow hp hg h k
  obtain ⟨q, d, f⟩ := hd
  exact ⟨b * u + v * q, v * d + b * c, by grind⟩
/-- equal monic ones -/
theorem mon_dvm {m : Nat} (hg : g.Mon m) (hh : h.Mon m) (d : Dvm p g h) (h1 : 1 < p) : Eqp p g h := by
  obtain ⟨q, c, e⟩ := d
  obtain ⟨q1, s1, f1, b1⟩ := PZ.mdiv hg c
  have e2 : h = (q + (p : PZ) * q1) * g + (p : PZ) * s1 := by grind
  have := PZ.mdiv_uniq hg (q := q + (p : PZ) * q1) (s := (p : PZ) * s1) (q' := 1) (s' := h - g) (by grind) (b1.int p) (fun t ht => by
    rw [PZ.co_sub]
    by_cases et : t = m
    · rw [et, hg.top, hh.top]; rfl
    · rw [hg.bd t (by omega), hh.bd t (by omega)]; rfl)
  exact ⟨-s1, by grind⟩
theorem Irp.eq_of (hp : InvP p) {m k : Nat} (hg : Irp p g m) (hh : Irp p h k) (d : Dvm p g h) : m = k ∧ Eqp p g h := by
  have hmk : m ≤ k := by
    apply Classical.byContradiction
    intro z
    obtain ⟨q, c, e⟩ := d
    -- h = q g + p c with deg h < deg g
    by_cases hq : q.Dvp p
    · obtain ⟨q1, hq⟩ := PZ.dvp_iff.mp hq
      have : h.Dvp p := PZ.dvp_iff.mpr ⟨q1 * g + c, by grind⟩
      have := this k
      rw [hh.mon.top] at this
      have h1 := hp.pr.1
      have := Int.le_of_dvd (by decide) this
      omega
    · obtain ⟨n, a1, a2, e1, d1, t1⟩ := PZ.not_dvp hq
      have ht := (PZ.mul_top d1 hg.mon.bd).2
      have e2 : a1 * g = h - (p : PZ) * (c + a2 * g) := by grind
      rw [e2, PZ.co_sub, hh.mon.bd _ (by omega), PZ.co_int_mul, hg.mon.top, Int.mul_one] at ht
      exact t1 ⟨-(c + a2 * g).co (n + m), by rw [← ht, Int.mul_neg]; omega⟩
  have hkm : k = m := by
    by_cases z : m < k
    · exact absurd d (hh.no m g hg.pos z hg.mon)
    · omega
  subst hkm
  exact ⟨rfl, mon_dvm hg.mon hh.mon d hp.pr.1⟩
end
end T
set_option maxRecDepth 100000
set_option maxHeartbeats 4000000
namespace T
open PySem PySem.Spec PyProof.Rows L2
/-! ### values modulo p -/
theorem loopM_app {α C : Type} (f : C → α → M C) : ∀ (xs ys : List α) (c : C), loopM f c (xs ++ ys) = (loopM f c xs).bind fun d => loopM f d ys
  | [], ys, c => rfl
  | x :: xs, ys, c => by
    show (f c x).bind _ = M.bind ((f c x).bind _) _
    rw [bind_bind]
    congr 1
    funext d
    exact loopM_app f xs ys d
theorem mod_at_ok {x p : Int} (hp : 0 < p) (hx : x.natAbs < 18446744073709551616) (f : List Int) : m_mod_at f x p = ok (ev f x % p) := by
  unfold m_mod_at
  rw [bind_ok, bind_ok]
  have key : ∀ f : List Int, loopM (fun (value5 : Int) place6 => (M.bind (M.bind (M.bind (pmul value5 x) fun u8 => ok (u8 + place6)) fun u9 => (pmod u9 p)) fun value7 => ok (value7))) 0 (List.reverse f) = ok (ev f x % p) := by
    intro f
    induction f with
    | nil => show ok (0 : Int) = ok (0 % p); rw [Int.zero_emod]
    | cons a f ih =>
      rw [List.reverse_cons, loopM_app, ih, bind_ok]
      show M.bind (M.bind (M.bind (M.bind (pmul (ev f x % p) x) fun u8 => ok (u8 + a)) fun u9 => (pmod u9 p)) fun value7 => ok (value7)) (fun c' => ok c') = _
      rw [pmul_right (by rw [pow64]; exact hx), bind_ok, bind_ok, pmod_pos hp, bind_ok, bind_ok]
      show ok ((ev f x % p * x + a) % p) = ok ((a + x * ev f x) % p)
      congr 1
      have h : Cg p (ev f x % p * x + a) (a + x * ev f x) := by
        have := ((Cg.mod p (ev f x)).mul (Cg.refl p x)).add (Cg.refl p a)
        rwa [show ev f x * x + a = a + x * ev f x by rw [Int.mul_comm]; omega] at this
      exact Cg.iff.mp h
  rw [key, bind_ok]
/-- the value of a polynomial of Z[x] -/
theorem ev_cg {p : Int} (x : Int) : ∀ {f g : List Int}, CgP p f g → Cg p (ev f x) (ev g x)
  | [], [], _ => .refl _ _
  | [], b :: g, h => by
    have h0 := h 0
    have ih := ev_cg x (f := []) (g := g) fun t => by have := h (t + 1); rwa [co_succ] at this
    show Cg p 0 (b + x * ev g x)
    have := (show Cg p 0 b from h0).add ((Cg.refl p x).mul ih)
    rwa [show (0 : Int) + x * ev [] x = 0 by show 0 + x * 0 = 0; omega] at this
  | a :: f, [], h => by
    have h0 := h 0
    have ih := ev_cg x (f := f) (g := []) fun t => by have := h (t + 1); rwa [co_succ] at this
    show Cg p (a + x * ev f x) 0
    have := (show Cg p a 0 from h0).add ((Cg.refl p x).mul ih)
    rwa [show (0 : Int) + x * ev [] x = 0 by show 0 + x * 0 = 0; omega] at this
  | a :: f, b :: g, h => by
    have h0 := h 0
    have ih := ev_cg x (f := f) (g := g) fun t => by have := h (t + 1); rwa [co_succ, co_succ] at this
    exact (show Cg p a b from h0).add ((Cg.refl p x).mul ih)
/-- a root and a linear divisor -/
theorem root_dvm {p r : Int} {f : List Int} (hp : 1 < p) : Dvm p (PZ.of [-r, 1]) (PZ.of f) ↔ Cg p (ev f r) 0 := by
  have hm : (PZ.of [-r, 1]).Mon 1 := ⟨fun t ht => co_out ht, rfl⟩
  have ez : ev [-r, 1] r = 0 := by show -r + r * (1 + r * 0) = 0; grind
  constructor
  · rintro ⟨q, c, e⟩
    obtain ⟨q, rfl⟩ := PZ.rep q
    have h : CgP p f (mulP q [-r, 1]) := Eqp.cg.mp ⟨c, e⟩
    have := ev_cg r h
    rwa [mulP_ev, ez, Int.mul_zero] at this
  · intro h
    obtain ⟨q, s, e, b⟩ := PZ.mdiv hm (PZ.of f)
    obtain ⟨q, rfl⟩ := PZ.rep q
    have hs : s = PZ.of [s.co 0] := PZ.ext fun t => by
      cases t with
      | zero => rfl
      | succ t => rw [b _ (by omega)]; rfl
    generalize s.co 0 = s0 at hs
    subst hs
    have e' : ∀ t, co f t = co (addP (mulP q [-r, 1]) [s0]) t := fun t => congrArg (fun x => PZ.co x t) e
    rw [ev_co r e', addP_ev, mulP_ev, ez, Int.mul_zero, show ev [s0] r = s0 by show s0 + r * 0 = s0; omega, Int.zero_add] at h
    obtain ⟨k, hk⟩ := h
    refine ⟨PZ.of q, PZ.of [k], ?_⟩
    rw [e, hk, Int.zero_add, ← PZ.intC, ← PZ.intC]
    grind
/-- a low divisor of a monic one has a monic fellow -/
theorem dvm_low {p : Int} {d s : PZ} {k : Nat} (hd : d.Mon k) (hs : s.Bd k) (h : Dvm p d s) : s.Dvp p := by
  obtain ⟨q, c, e⟩ := h
  by_cases hq : q.Dvp p
  · obtain ⟨q1, hq⟩ := PZ.dvp_iff.mp hq
    exact PZ.dvp_iff.mpr ⟨q1 * d + c, by grind⟩
  · obtain ⟨n, a1, a2, e1, d1, t1⟩ := PZ.not_dvp hq
    have ht := (PZ.mul_top d1 hd.bd).2
    have e2 : a1 * d = s - (p : PZ) * (c + a2 * d) := by grind
    rw [e2, PZ.co_sub, hs _ (by omega), PZ.co_int_mul, hd.top, Int.mul_one] at ht
    exact absurd ⟨-(c + a2 * d).co (n + k), by rw [← ht, Int.mul_neg]; omega⟩ t1
theorem cofac {p : Int} {d f : PZ} {k m : Nat} (hd : d.Mon k) (hf : f.Mon m) (hkm : k ≤ m) (h : Dvm p d f) : ∃ q : PZ, q.Mon (m - k) ∧ Eqp p f (q * d) := by
  obtain ⟨q, s, e, b⟩ := PZ.mdiv hd f
  have hs : s.Dvp p := dvm_low hd b (by
    have : s = f - q * d := by grind
    rw [this]
    exact h.sub Dvm.right)
  obtain ⟨c, hc⟩ := PZ.dvp_iff.mp hs
  refine ⟨q, ?_, ⟨c, by grind⟩⟩
  -- q is monic
  have hq0 : q ≠ 0 := fun z => by
    have : f = s := by rw [e, z]; grind
    have h1 := hf.top
    rw [this, b m hkm] at h1
    omega
  obtain ⟨l, h1, h2⟩ := PZ.deg hq0
  obtain ⟨p1, p2⟩ := PZ.mul_top h1 hd.bd
  have ef : q * d = f - s := by grind
  rw [ef, PZ.co_sub, hd.top, Int.mul_one] at p2
  have hlm : l + k = m := by
    apply Classical.byContradiction
    intro z
    by_cases hlt : m < l + k
    · rw [hf.bd _ (by omega), b _ (by omega)] at p2
      omega
    · have := p1 m (by omega)
      rw [ef, PZ.co_sub, hf.top, b m hkm] at this
      omega
  rw [show m - k = l by omega]
  refine ⟨h1, ?_⟩
  rw [← p2, hlm, hf.top, b m hkm]
  rfl
theorem prange2_ok {i j : Int} (h1 : i.natAbs < 1000000000) (h2 : j.natAbs < 1000000000) : prange2 i j = ok (rangeL i (j - i).toNat) := by
  have e : (2 : Int) ^ 62 = 4611686018427387904 := by decide
  unfold prange2
  exact grd_pos (by rw [e]; omega) _
theorem mem_range_of {lo x : Int} {n : Nat} (h1 : lo ≤ x) (h2 : x < lo + n) : x ∈ rangeL lo n := by
  unfold rangeL
  rw [List.mem_map]
  exact ⟨(x - lo).toNat, List.mem_range.mpr (by omega), by omega⟩
theorem Tot.loopFall {α ρ : Type} {f : Unit → α → M (Fl Unit ρ)} (N : α → Prop) (A : ρ → Prop) : ∀ {xs : List α}, (∀ x ∈ xs, Tot (f () x) fun r => (r = Fl.nx () ∧ N x) ∨ ∃ a, r = Fl.rt a ∧ A a) → Tot (T.loopF f () xs) fun r => (r = Fl.nx () ∧ ∀ x ∈ xs, N x) ∨ ∃ a, r = Fl.rt a ∧ A a
  | [], _ => ⟨_, rfl, .inl ⟨rfl, fun x hx => nomatch hx⟩⟩
  | x :: xs, h => by
    obtain ⟨r, e, hr⟩ := h x List.mem_cons_self
    show Tot ((f () x).bind (flk fun c => T.loopF f c xs)) _
    rw [e, bind_ok]
    rcases hr with ⟨rfl, n⟩ | ⟨a, rfl, ha⟩
    · obtain ⟨r, e, hr⟩ := Tot.loopFall N A (fun y hy => h y (List.mem_cons_of_mem _ hy))
      refine ⟨r, e, ?_⟩
      rcases hr with ⟨rfl, n2⟩ | hr
      · refine .inl ⟨rfl, fun y hy => ?_⟩
        rcases List.mem_cons.mp hy with rfl | z
        · exact n
        · exact n2 y z
      · exact .inr hr
    · exact .ok (.inr ⟨a, rfl, ha⟩)
end T
set_option maxRecDepth 100000
set_option maxHeartbeats 4000000
namespace T
open PySem PySem.Spec PyProof.Rows L2
/-! ### Z modulo p, for grind -/
def cgS (p : Int) : Setoid Int := ⟨Cg p, Cg.refl p, Cg.symm, Cg.trans⟩
def Zq (p : Int) : Type := Quotient (cgS p)
def zq (p x : Int) : Zq p := Quotient.mk (cgS p) x
theorem zq_iff {p x y : Int} : Cg p x y ↔ zq p x = zq p y := ⟨fun h => Quotient.sound (s := cgS p) h, fun h => Quotient.exact (s := cgS p) h⟩
theorem zq_rep {p : Int} (a : Zq p) : ∃ x, a = zq p x := Quotient.ind (motive := fun a => ∃ x, a = zq p x) (fun x => ⟨x, rfl⟩) a
def Zq.rd (p : Int) : RD (Zq p) where
  z := zq p 0
  o := zq p 1
  ad := Quotient.lift₂ (fun a b => zq p (a + b)) fun a b c d h g => zq_iff.mp (Cg.add h g)
  ng := Quotient.lift (fun a => zq p (-a)) fun a b h => zq_iff.mp (Cg.neg h)
  ml := Quotient.lift₂ (fun a b => zq p (a * b)) fun a b c d h g => zq_iff.mp (Cg.mul h g)
  ad_z a := by obtain ⟨a, rfl⟩ := zq_rep a; exact congrArg (zq p) (show a + 0 = a by grind)
  ad_c a b := by obtain ⟨a, rfl⟩ := zq_rep a; obtain ⟨b, rfl⟩ := zq_rep b; exact congrArg (zq p) (show a + b = b + a by grind)
  ad_a a b c := by obtain ⟨a, rfl⟩ := zq_rep a; obtain ⟨b, rfl⟩ := zq_rep b; obtain ⟨c, rfl⟩ := zq_rep c; exact congrArg (zq p) (show a + b + c = a + (b + c) by grind)
  ng_ad a := by obtain ⟨a, rfl⟩ := zq_rep a; exact congrArg (zq p) (show -a + a = 0 by grind)
  ml_a a b c := by obtain ⟨a, rfl⟩ := zq_rep a; obtain ⟨b, rfl⟩ := zq_rep b; obtain ⟨c, rfl⟩ := zq_rep c; exact congrArg (zq p) (show a * b * c = a * (b * c) by grind)
  ml_c a b := by obtain ⟨a, rfl⟩ := zq_rep a; obtain ⟨b, rfl⟩ := zq_rep b; exact congrArg (zq p) (show a * b = b * a by grind)
  ml_o a := by obtain ⟨a, rfl⟩ := zq_rep a; exact congrArg (zq p) (show a * 1 = a by grind)
  ds a b c := by obtain ⟨a, rfl⟩ := zq_rep a; obtain ⟨b, rfl⟩ := zq_rep b; obtain ⟨c, rfl⟩ := zq_rep c; exact congrArg (zq p) (show a * (b + c) = a * b + a * c by grind)
instance (p : Int) : Lean.Grind.CommRing (Zq p) := (Zq.rd p).ring
theorem zq_add (p x y : Int) : zq p (x + y) = zq p x + zq p y := rfl
theorem zq_mul (p x y : Int) : zq p (x * y) = zq p x * zq p y := rfl
theorem zq_sub (p x y : Int) : zq p (x - y) = zq p x - zq p y := by rw [Int.sub_eq_add_neg, Lean.Grind.Ring.sub_eq_add_neg]; rfl
theorem zq_mod (p x : Int) : zq p (x % p) = zq p x := zq_iff.mp (Cg.mod p x)
theorem zq_0 (p : Int) : zq p 0 = 0 := rfl
theorem zq_1 (p : Int) : zq p 1 = 1 := rfl
theorem zq_mod0 {p x : Int} (hp : 0 < p) : x % p = 0 ↔ zq p x = 0 := by
  rw [← zq_0, ← zq_iff, Cg.iff, Int.zero_emod]
def sqK {C ρ θ : Type} (k : C → M θ) (ι : ρ → θ) : Fl C ρ → M θ
  | .nx c => k c
  | .rt a => ok (ι a)
theorem sq_of {C ρ θ : Type} {r : M (Fl C ρ)} {k : C → M θ} {ι : ρ → θ} {y : Fl C ρ} (h : r = ok y) : sq r k ι = sqK k ι y := by
  subst h
  cases y <;> rfl
/-! ### pairs of quadratics -/
def PairEq (p f0 f1 f2 f3 b a d c : Int) : Prop := Cg p f0 (b * d) ∧ Cg p f1 (a * d + b * c) ∧ Cg p f2 (b + d + a * c) ∧ Cg p f3 (a + c)
theorem pair_mul {p f0 f1 f2 f3 b a d c : Int} : PairEq p f0 f1 f2 f3 b a d c ↔ CgP p [f0, f1, f2, f3, 1] (mulP [b, a, 1] [d, c, 1]) := by
  have e : ∀ t, co (mulP [b, a, 1] [d, c, 1]) t = co [b * d, a * d + b * c, b + d + a * c, a + c, 1] t := fun t => by
    match t with
    | 0 => simp [mulP, addP, scaleP, co]
    | 1 => first | (simp [mulP, addP, scaleP, co]; done) | (simp [mulP, addP, scaleP, co]; grind)
    | 2 => first | (simp [mulP, addP, scaleP, co]; done) | (simp [mulP, addP, scaleP, co]; grind)
    | 3 => first | (simp [mulP, addP, scaleP, co]; done) | (simp [mulP, addP, scaleP, co]; grind)
    | 4 => simp [mulP, addP, scaleP, co]
    | t + 5 => simp [mulP, addP, scaleP, co]
  constructor
  · rintro ⟨h0, h1, h2, h3⟩ t
    rw [e]
    match t with
    | 0 => exact h0
    | 1 => exact h1
    | 2 => exact h2
    | 3 => exact h3
    | 4 => exact .refl _ _
    | t + 5 => exact .of_eq (by simp [co])
  · intro h
    have g : ∀ t, Cg p (co [f0, f1, f2, f3, 1] t) (co [b * d, a * d + b * c, b + d + a * c, a + c, 1] t) := fun t => by rw [← e]; exact h t
    exact ⟨g 0, g 1, g 2, g 3⟩
theorem fin2 {α : Type} (a b : α) : ([a, b] : List α).length ≤ 16777216 := by simp
theorem fin3 {α : Type} (a b c : α) : ([a, b, c] : List α).length ≤ 16777216 := by simp
theorem pair_of_ok {p f0 f1 f2 f3 : Int} (h : p ∈ primesL) (hr : Red p [f0, f1, f2, f3, 1]) :
    Tot (m_pair_of [f0, f1, f2, f3, 1] p) fun o => (o = none ∧ ∀ b, 1 ≤ b → b < p → ∀ a d c, ¬ PairEq p f0 f1 f2 f3 b a d c) ∨
      ∃ b a d c, o = some [[b, a, 1], [d, c, 1]] ∧ 1 ≤ b ∧ b < p ∧ 0 ≤ a ∧ a < p ∧ 0 ≤ d ∧ d < p ∧ 0 ≤ c ∧ c < p ∧ PairEq p f0 f1 f2 f3 b a d c := by
  obtain ⟨p1, p2⟩ := pr_bd h
  have hm := hr.mem
  have h0 := hm f0 (by simp)
  have h1 := hm f1 (by simp)
  have h2 := hm f2 (by simp)
  have h3 := hm f3 (by simp)
  unfold m_pair_of
  rw [show asRec4 (cutL [f0, f1, f2, f3, 1] none (some 4)) = ok (f0, f1, f2, f3) from rfl, bind_ok]
  have tn : ∀ x : Int, x % p ≠ 0 → ∃ t, m_turned x p = ok t ∧ 0 ≤ t ∧ t < p ∧ zq p t * zq p x = 1 := fun x hx => by
    obtain ⟨t, e, t0, t1, hc⟩ := turned_ok (a := x) (p := p) p1 (by omega) ((isP_of h).2.2 x hx)
    exact ⟨t, e, t0, t1, by rw [← zq_mul, ← zq_1]; exact zq_iff.mp hc⟩
  have hpz : ∀ x : Int, x % p = 0 ↔ zq p x = 0 := fun x => zq_mod0 (by omega)
  have main : Tot (M.bind (prange2 1 p) fun xs => loopF (fun (s4 : Unit) b5 => (M.bind (M.bind (M.bind (m_turned b5 p) fun u7 => (pmul f0 u7)) fun u8 => (pmod u8 p)) fun d6 => (M.bind (ok ((!decide (b5 = d6)))) fun z9 => if z9 = true then (M.bind (M.bind (M.bind (M.bind (pmul b5 f3) fun u11 => ok (f1 - u11)) fun u12 => M.bind (m_turned (d6 - b5) p) fun u13 => (pmul u12 u13)) fun u14 => (pmod u14 p)) fun a10 => (M.bind (M.bind (M.bind (M.bind (M.bind (M.bind (pmul a10 (f3 - a10)) fun u15 => ok (u15 + b5)) fun u16 => ok (u16 + d6)) fun u17 => ok (u17 - f2)) fun u18 => (pmod u18 p)) fun u19 => ok (decide (u19 = 0))) fun z20 => if z20 = true then (M.bind (M.bind (M.bind (M.bind (pmod (f3 - a10) p) fun u21 => psz [d6, u21, 1]) fun u22 => psz [[b5, a10, 1], u22]) fun u23 => ok (some u23)) fun a24 => ok (Fl.rt a24)) else ok (Fl.nx ()))) else (M.bind (M.bind (M.bind (M.bind (pmul b5 f3) fun u25 => ok (f1 - u25)) fun u26 => (pmod u26 p)) fun u27 => ok (decide (u27 = 0))) fun z28 => if z28 = true then (sq (ρ := (Option (List (List Int)))) (M.bind (prangeI p) fun xs => loopF (fun (s29 : Unit) a30 => (M.bind (M.bind (M.bind (M.bind (M.bind (M.bind (pmul a30 (f3 - a30)) fun u31 => ok (u31 + b5)) fun u32 => ok (u32 + d6)) fun u33 => ok (u33 - f2)) fun u34 => (pmod u34 p)) fun u35 => ok (decide (u35 = 0))) fun z36 => if z36 = true then (M.bind (M.bind (M.bind (M.bind (pmod (f3 - a30) p) fun u37 => psz [d6, u37, 1]) fun u38 => psz [[b5, a30, 1], u38]) fun u39 => ok (some u39)) fun a40 => ok (Fl.rt a40)) else ok (Fl.nx ()))) () xs) (fun s41 => ok (Fl.nx ())) (fun a => Fl.rt a)) else ok (Fl.nx ()))))) () xs)
      fun r => (r = Fl.nx () ∧ ∀ b ∈ rangeL 1 (p - 1).toNat, ∀ a d c, ¬ PairEq p f0 f1 f2 f3 b a d c) ∨ ∃ o, r = Fl.rt o ∧ ∃ b a d c, o = some [[b, a, 1], [d, c, 1]] ∧ 1 ≤ b ∧ b < p ∧ 0 ≤ a ∧ a < p ∧ 0 ≤ d ∧ d < p ∧ 0 ≤ c ∧ c < p ∧ PairEq p f0 f1 f2 f3 b a d c := by
    rw [prange2_ok (by decide) (by omega), bind_ok]
    refine Tot.loopFall _ _ fun z hz => ?_
    have hz' := mem_rangeL hz
    have hz1 : 1 ≤ z ∧ z < p := by omega
    clear hz'
    obtain ⟨t, et, t0, t1, tz⟩ := tn z (by rw [Int.emod_eq_of_lt (by omega) (by omega)]; omega)
    try dsimp only
    rw [et, bind_ok, pmul_left (by rw [pow64]; omega), bind_ok, pmod_pos (by omega), bind_ok, bind_ok]
    have hd0 := Int.emod_nonneg (f0 * t) (show p ≠ 0 by omega)
    have hd1 := Int.emod_lt_of_pos (f0 * t) (show 0 < p by omega)
    have hdz : zq p (f0 * t % p) = zq p f0 * zq p t := by rw [zq_mod, zq_mul]
    generalize f0 * t % p = dd at hd0 hd1 hdz
    by_cases hne : z = dd
    · rw [decide_eq_true hne, Bool.not_true, if_neg (by decide), pmul_left (by rw [pow64]; omega), bind_ok, bind_ok, pmod_pos (by omega), bind_ok, bind_ok]
      by_cases hz0 : (f1 - z * f3) % p = 0
      · rw [decide_eq_true hz0, if_pos rfl]
        obtain ⟨n, hn⟩ := Int.eq_ofNat_of_zero_le (show 0 ≤ p by omega)
        have inner : Tot (M.bind (prangeI p) fun xs => loopF (fun (s29 : Unit) a30 => (M.bind (M.bind (M.bind (M.bind (M.bind (M.bind (pmul a30 (f3 - a30)) fun u31 => ok (u31 + z)) fun u32 => ok (u32 + dd)) fun u33 => ok (u33 - f2)) fun u34 => (pmod u34 p)) fun u35 => ok (decide (u35 = 0))) fun z36 => if z36 = true then (M.bind (M.bind (M.bind (M.bind (pmod (f3 - a30) p) fun u37 => psz [dd, u37, 1]) fun u38 => psz [[z, a30, 1], u38]) fun u39 => ok (some u39)) fun a40 => ok (Fl.rt (C := Unit) a40)) else ok (Fl.nx ()))) () xs)
            fun r => (r = Fl.nx () ∧ ∀ a ∈ rangeL 0 p.toNat, ∀ d c, ¬ PairEq p f0 f1 f2 f3 z a d c) ∨ ∃ o, r = Fl.rt o ∧ ∃ b a d c, o = some [[b, a, 1], [d, c, 1]] ∧ 1 ≤ b ∧ b < p ∧ 0 ≤ a ∧ a < p ∧ 0 ≤ d ∧ d < p ∧ 0 ≤ c ∧ c < p ∧ PairEq p f0 f1 f2 f3 b a d c := by
          refine .bind (.prangeI (by omega) (by omega)) fun ys hys => ?_
          subst hys
          refine Tot.loopFall _ _ fun w hw => ?_
          have hw' := mem_rangeL hw
          have hw1 : 0 ≤ w ∧ w < p := by omega
          try dsimp only
          rw [pmul_left (by rw [pow64]; omega), bind_ok, bind_ok, bind_ok, bind_ok, pmod_pos (by omega), bind_ok, bind_ok]
          by_cases hc : (w * (f3 - w) + z + dd - f2) % p = 0
          · rw [decide_eq_true hc, if_pos rfl, pmod_pos (by omega), bind_ok, psz_ok (fin3 _ _ _), bind_ok, psz_ok (fin2 _ _), bind_ok, bind_ok]
            refine .ok (.inr ⟨_, rfl, z, w, dd, (f3 - w) % p, rfl, hz1.1, hz1.2, hw1.1, hw1.2, hd0, hd1, Int.emod_nonneg _ (by omega), Int.emod_lt_of_pos _ (by omega), ?_⟩)
            rw [hpz, zq_sub, zq_add, zq_add, zq_mul, zq_sub] at hc
            rw [hpz, zq_sub, zq_mul] at hz0
            refine ⟨?_, ?_, ?_, ?_⟩ <;> rw [zq_iff] <;> simp only [zq_add, zq_mul, zq_mod, zq_sub]
            · grind
            · rw [← hne]; grind
            · grind
            · grind
          · rw [decide_eq_false hc, if_neg (by decide)]
            refine .ok (.inl ⟨rfl, fun d c ⟨e0, e1, e2, e3⟩ => hc ?_⟩)
            rw [zq_iff, zq_mul] at e0
            rw [zq_iff, zq_add, zq_mul, zq_mul] at e1
            rw [zq_iff, zq_add, zq_add, zq_mul] at e2
            rw [zq_iff, zq_add] at e3
            rw [hpz, zq_sub, zq_add, zq_add, zq_mul, zq_sub]
            have hdd : zq p dd = zq p d := by grind
            grind
        obtain ⟨r, er, hr⟩ := inner
        unfold sq
        rw [er, bind_ok]
        rcases hr with ⟨rfl, no⟩ | ⟨o, rfl, ho⟩
        · refine .ok (.inl ⟨rfl, fun a d c he => no (a % p) (mem_range_of (Int.emod_nonneg _ (by omega)) (by have := Int.emod_lt_of_pos a (show 0 < p by omega); omega)) d c ?_⟩)
          obtain ⟨e0, e1, e2, e3⟩ := he
          refine ⟨e0, ?_, ?_, ?_⟩ <;> rw [zq_iff] at * <;> simp only [zq_add, zq_mul, zq_mod] at * <;> assumption
        · exact .ok (.inr ⟨o, rfl, ho⟩)
      · rw [decide_eq_false hz0, if_neg (by decide)]
        refine .ok (.inl ⟨rfl, fun a d c ⟨e0, e1, e2, e3⟩ => hz0 ?_⟩)
        rw [zq_iff, zq_mul] at e0
        rw [zq_iff, zq_add, zq_mul, zq_mul] at e1
        rw [zq_iff, zq_add] at e3
        rw [hpz, zq_sub, zq_mul]
        have hdd : zq p dd = zq p d := by grind
        have : zq p z = zq p d := by rw [hne, hdd]
        grind
    · rw [decide_eq_false hne, Bool.not_false, if_pos rfl, pmul_left (by rw [pow64]; omega), bind_ok, bind_ok]
      have hvz : (dd - z) % p ≠ 0 := by
        intro k
        have : Cg p dd z := by
          rw [hpz, zq_sub] at k
          rw [zq_iff]
          grind
        exact hne (this.small hd0 hd1 (by omega) hz1.2).symm
      obtain ⟨t', et', t0', t1', tz'⟩ := tn (dd - z) hvz
      rw [zq_sub] at tz'
      rw [et', bind_ok, pmul_right (by rw [pow64]; omega), bind_ok, pmod_pos (by omega), bind_ok]
      have ha0 := Int.emod_nonneg ((f1 - z * f3) * t') (show p ≠ 0 by omega)
      have ha1 := Int.emod_lt_of_pos ((f1 - z * f3) * t') (show 0 < p by omega)
      have haz : zq p ((f1 - z * f3) * t' % p) = (zq p f1 - zq p z * zq p f3) * zq p t' := by rw [zq_mod, zq_mul, zq_sub, zq_mul]
      generalize (f1 - z * f3) * t' % p = a at ha0 ha1 haz
      rw [pmul_left (by rw [pow64]; omega), bind_ok, bind_ok, bind_ok, bind_ok, pmod_pos (by omega), bind_ok, bind_ok]
      by_cases hc : (a * (f3 - a) + z + dd - f2) % p = 0
      · rw [decide_eq_true hc, if_pos rfl, pmod_pos (by omega), bind_ok, psz_ok (fin3 _ _ _), bind_ok, psz_ok (fin2 _ _), bind_ok, bind_ok]
        refine .ok (.inr ⟨_, rfl, z, a, dd, (f3 - a) % p, rfl, hz1.1, hz1.2, ha0, ha1, hd0, hd1, Int.emod_nonneg _ (by omega), Int.emod_lt_of_pos _ (by omega), ?_⟩)
        rw [hpz, zq_sub, zq_add, zq_add, zq_mul, zq_sub] at hc
        refine ⟨?_, ?_, ?_, ?_⟩ <;> rw [zq_iff] <;> simp only [zq_add, zq_mul, zq_mod, zq_sub]
        · grind
        · grind
        · grind
        · grind
      · rw [decide_eq_false hc, if_neg (by decide)]
        refine .ok (.inl ⟨rfl, fun a' d c ⟨e0, e1, e2, e3⟩ => hc ?_⟩)
        rw [zq_iff, zq_mul] at e0
        rw [zq_iff, zq_add, zq_mul, zq_mul] at e1
        rw [zq_iff, zq_add, zq_add, zq_mul] at e2
        rw [zq_iff, zq_add] at e3
        rw [hpz, zq_sub, zq_add, zq_add, zq_mul, zq_sub]
        have hdd : zq p dd = zq p d := by grind
        have haa : zq p a = zq p a' := by grind
        grind
  obtain ⟨r, er, hr⟩ := main
  dsimp only
  rw [sq_of er]
  rcases hr with ⟨rfl, no⟩ | ⟨o, rfl, ho⟩
  · show Tot (ok none) _
    exact .ok (.inl ⟨rfl, fun b b1 b2 => no b (mem_range_of b1 (by omega))⟩)
  · show Tot (ok o) _
    exact .ok (.inr ho)
end T
set_option maxRecDepth 100000
set_option maxHeartbeats 4000000
namespace T
open PySem PySem.Spec PyProof.Rows L2
/-! ### monic rows modulo p -/
structure Mp (p : Int) (f : List Int) : Prop where
  red : Red p f
  pos : 0 < f.length
  last : co f (f.length - 1) = 1
theorem Mp.mon {p : Int} {f : List Int} (h : Mp p f) {n : Nat} (hn : f.length = n + 1) : (PZ.of f).Mon n :=
  ⟨fun t ht => co_out (by omega), by have := h.last; rw [hn] at this; exact this⟩
theorem mp_of {p : Int} {Q : List Int} {q : PZ} {k : Nat} (hp : 1 < p) (hc : Cut Q) (hr : Red p Q) (hq : q.Mon k) (e : Eqp p (PZ.of Q) q) : Mp p Q ∧ Q.length = k + 1 := by
  obtain ⟨c, e⟩ := e
  have hco : ∀ t, co Q t = q.co t + p * c.co t := fun t => by
    have := congrArg (fun x => PZ.co x t) e
    simp only [PZ.co_add, PZ.co_int_mul] at this
    exact this
  have hz : ∀ t, k < t → co Q t = 0 := fun t ht => by
    have := hco t
    rw [hq.bd t (by omega)] at this
    have c1 : Cg p (co Q t) 0 := ⟨c.co t, by omega⟩
    exact c1.small (hr t).1 (hr t).2 (by omega) (by omega)
  have h1 : co Q k = 1 := by
    have := hco k
    rw [hq.top] at this
    have c1 : Cg p (co Q k) 1 := ⟨c.co k, by omega⟩
    exact c1.small (hr k).1 (hr k).2 (by omega) (by omega)
  have hlen : Q.length = k + 1 := by
    have hk : k < Q.length := by
      apply Classical.byContradiction
      intro z
      rw [co_out (by omega)] at h1
      omega
    have hne : Q ≠ [] := by intro z; subst z; simp at hk
    apply Classical.byContradiction
    intro z
    exact hc.last hne (hz _ (by omega))
  exact ⟨⟨hr, by omega, by rw [hlen]; exact h1⟩, hlen⟩
def NoRoot (p : Int) (f : List Int) : Prop := ∀ r : Int, ¬ Cg p (ev f r) 0
section
variable {p : Int}
theorem eqp_ev {f g : List Int} (h : Eqp p (PZ.of f) (PZ.of g)) (r : Int) : Cg p (ev f r) (ev g r) := ev_cg r (Eqp.cg.mp h)
theorem lin_mon (a : Int) : (PZ.of [a, 1]).Mon 1 := ⟨fun t ht => co_out ht, rfl⟩
/-- one linear factor is parted off -/
theorem part_root_ok {f : List Int} {low : Int} (h : p ∈ primesL) (hl : 0 ≤ low) (hl2 : low < p) (hf : Mp p f) (h1 : 1 < f.length) (h5 : f.length ≤ 1000) (hr : Cg p (ev f (-low)) 0) :
    Tot (m_mod_parted f [low, 1] p) fun r => Mp p r.1 ∧ r.1.length + 1 = f.length ∧ Eqp p (PZ.of f) (PZ.of [low, 1] * PZ.of r.1) := by
  obtain ⟨p1, p2⟩ := pr_bd h
  have hG : modP p [low, 1] = [low, 1] := by
    refine modP_eq (by omega) (.inr ⟨1, [low], rfl, by decide⟩) (Red.of (by omega) fun x hx => ?_) (CgP.refl _ _)
    simp only [List.mem_cons, List.not_mem_nil, or_false] at hx
    rcases hx with rfl | rfl <;> omega
  have hc1 : co [low, 1] 1 = 1 := rfl
  obtain ⟨Q, R, e, cQ, cR, rQ, rR, lR, lQ, eq⟩ := mod_parted_ok (f := f) (g := [low, 1]) (G := [low, 1]) (d := 1) p1 (by omega) hG rfl (by
    rw [hc1, Int.emod_eq_of_lt (by decide) p1]
    exact fun d h1 _ => h1) (by omega) (by show 2 ≤ 100000; decide)
  refine ⟨(Q, R), e, ?_⟩
  have ez : ev [low, 1] (-low) = 0 := by show low + -low * (1 + -low * 0) = 0; grind
  have hR : ∀ t, Cg p (co R t) 0 := fun t => by
    cases t with
    | succ t => exact .of_eq (co_out (by omega))
    | zero =>
      have := (ev_cg (-low) eq).symm.trans hr
      rw [addP_ev, mulP_ev, ez, Int.mul_zero, Int.zero_add] at this
      match R, lR with
      | [], _ => exact .refl _ _
      | [c], _ => rwa [show ev [c] (-low) = c by show c + -low * 0 = c; omega] at this
  have eq2 : Eqp p (PZ.of f) (PZ.of Q * PZ.of [low, 1]) := by
    have e1 := Eqp.cg.mpr eq
    have e2 : Eqp p (PZ.of R) 0 := Eqp.iff.mpr fun t => by
      obtain ⟨k, hk⟩ := hR t
      rw [PZ.co_sub, PZ.co_of, PZ.co_zero]
      exact ⟨k, by omega⟩
    refine e1.trans ?_
    rw [PZ.of_add, PZ.of_mul]
    have := (Eqp.refl p (PZ.of Q * PZ.of [low, 1])).add e2
    rwa [show PZ.of Q * PZ.of [low, 1] + 0 = PZ.of Q * PZ.of [low, 1] by grind] at this
  obtain ⟨q, hq, e3⟩ := cofac (lin_mon low) (hf.mon (n := f.length - 1) (by omega)) (by omega) ((Dvm.right (p := p) (a := PZ.of Q) (g := PZ.of [low, 1])).congr eq2.symm)
  have e4 : Eqp p (PZ.of Q) q := by
    rw [Eqp.iff]
    have hd : ((PZ.of Q - q) * PZ.of [low, 1]).Dvp p := by
      have := Eqp.iff.mp (eq2.symm.trans e3)
      rwa [show PZ.of Q * PZ.of [low, 1] - q * PZ.of [low, 1] = (PZ.of Q - q) * PZ.of [low, 1] by grind] at this
    rcases PZ.dvp_mul (invP_of h).pr hd with z | z
    · exact z
    · have := z 1
      rw [(lin_mon low).top] at this
      have := Int.le_of_dvd (by decide) this
      omega
  obtain ⟨m1, m2⟩ := mp_of p1 cQ rQ hq e4
  refine ⟨m1, by show Q.length + 1 = _; omega, ?_⟩
  rw [show PZ.of [low, 1] * PZ.of (Q, R).1 = PZ.of Q * PZ.of [low, 1] by show PZ.of [low, 1] * PZ.of Q = _; grind]
  exact eq2
theorem noRoot_dv {f g : List Int} {h : PZ} (hf : NoRoot p f) (e : Eqp p (PZ.of f) (h * PZ.of g)) : NoRoot p g := fun r hr => by
  obtain ⟨l, rfl⟩ := PZ.rep h
  have := eqp_ev (f := f) (g := mulP l g) e r
  rw [mulP_ev] at this
  refine hf r (this.trans ?_)
  have := (Cg.refl p (ev l r)).mul hr
  rwa [Int.mul_zero] at this
/-- without roots, and in degree four without a pair of quadratics -/
theorem irp_of {g : List Int} {m : Nat} (h : p ∈ primesL) (hm : (PZ.of g).Mon m) (h2 : 2 ≤ m) (h4 : m ≤ 4) (hn : NoRoot p g) (hq : m = 4 → ∀ d q : PZ, d.Mon 2 → q.Mon 2 → ¬ Eqp p (PZ.of g) (q * d)) : Irp p (PZ.of g) m := by
  have p1 := (pr_bd h).1
  have lin : ∀ d : PZ, d.Mon 1 → ¬ Dvm p d (PZ.of g) := fun d hd hdv => by
    rw [mon1_row hd, show d.co 0 = - -d.co 0 by omega] at hdv
    exact hn _ ((root_dvm p1).mp hdv)
  refine ⟨hm, by omega, fun k d k1 k2 hd hdv => ?_⟩
  by_cases e1 : k = 1
  · subst e1; exact lin d hd hdv
  obtain ⟨q, mq, e⟩ := cofac hd hm (by omega) hdv
  by_cases e2 : m - k = 1
  · rw [e2] at mq
    exact lin q mq (Dvm.congr e.symm Dvm.left)
  · have hk : k = 2 := by omega
    have hm4 : m = 4 := by omega
    subst hk; subst hm4
    exact hq rfl d q hd mq e
/-- a factor as it is told -/
structure Pt (p : Int) (g : List Int) : Prop where
  mp : Mp p g
  le : g.length ≤ 5
  irr : Irp p (PZ.of g) (g.length - 1)
theorem Pt.len {g : List Int} (h : Pt p g) : 2 ≤ g.length := by have := h.irr.pos; omega
def prodP : List (List Int × Int) → PZ
  | [] => 1
  | x :: l => PZ.of x.1 ^ x.2.toNat * prodP l
theorem prodP_app : ∀ (l m : List (List Int × Int)), prodP (l ++ m) = prodP l * prodP m
  | [], m => by show prodP m = 1 * prodP m; grind
  | x :: l, m => by
    show PZ.of x.1 ^ x.2.toNat * prodP (l ++ m) = PZ.of x.1 ^ x.2.toNat * prodP l * prodP m
    rw [prodP_app l m]
    grind
/-- what stands behind the linear factors -/
def Rest (rest : List (List Int × Int)) : Prop := rest = [] ∨ (∃ g e, rest = [(g, e)] ∧ 3 ≤ g.length ∧ 1 ≤ e) ∨ ∃ g k, rest = [(g, 1), (k, 1)] ∧ g.length = 3 ∧ k.length = 3 ∧ g ≠ k ∧ TS.code 1000 g ≤ TS.code 1000 k
theorem rootless_ok {f : List Int} (h : p ∈ primesL) (hf : Mp p f) (h3 : 3 ≤ f.length) (h5 : f.length ≤ 5) (hn : NoRoot p f) :
    Tot (m_rootless f p) fun l => (∀ x ∈ l, Pt p x.1 ∧ 1 ≤ x.2) ∧ Eqp p (PZ.of f) (prodP l) ∧ Rest l := by
  obtain ⟨p1, p2⟩ := pr_bd h
  have whole : (∀ d q : PZ, f.length = 5 → d.Mon 2 → q.Mon 2 → ¬ Eqp p (PZ.of f) (q * d)) → (∀ x ∈ [(f, (1 : Int))], Pt p x.1 ∧ 1 ≤ x.2) ∧ Eqp p (PZ.of f) (prodP [(f, 1)]) ∧ Rest [(f, 1)] := fun hq => by
    refine ⟨fun x hx => ?_, ?_, .inr (.inl ⟨f, 1, rfl, h3, by decide⟩)⟩
    · rw [List.mem_singleton.mp hx]
      show Pt p f ∧ (1 : Int) ≤ 1
      exact ⟨⟨hf, h5, irp_of h (hf.mon (by omega)) (by omega) (by omega) hn fun e d q hd hqm => hq d q (by omega) hd hqm⟩, by decide⟩
    · show Eqp p _ (PZ.of f ^ 1 * 1)
      rw [show PZ.of f ^ 1 * 1 = PZ.of f by grind]
      exact .refl _ _
  unfold m_rootless
  rw [bind_ok, bind_ok]
  by_cases hl : f.length = 5
  · rw [decide_eq_true (show (f.length : Int) = 5 by omega), if_pos rfl, bind_ret]
    match f, hl, hf, hn with
    | [f0, f1, f2, f3, f4], _, hf, hn =>
    have e4 : f4 = 1 := hf.last
    subst e4
    refine .bind (pair_of_ok h hf.red) fun o ho => ?_
    rcases ho with ⟨rfl, no⟩ | ⟨b, a, d, c, rfl, b1, b2, a1, a2, d1, d2, c1, c2, he⟩
    · rw [bind_ok, if_pos (show (none : Option (List (List Int))).isNone = true from rfl)]
      refine .ok (whole fun d q _ hd hq e => ?_)
      rw [mon2_row hd, mon2_row hq] at e
      have he : PairEq p f0 f1 f2 f3 (q.co 0) (q.co 1) (d.co 0) (d.co 1) := pair_mul.mpr (Eqp.cg.mp e)
      have hb0 : q.co 0 % p ≠ 0 := fun z => by
        refine hn 0 ?_
        have hz : Cg p (q.co 0) 0 := Cg.iff.mpr (by rw [z, Int.zero_emod])
        have := he.1.trans (hz.mul (Cg.refl p (d.co 0)))
        rw [Int.zero_mul] at this
        rwa [show ev [f0, f1, f2, f3, 1] 0 = f0 by show f0 + 0 * _ = f0; omega]
      have hb1 := Int.emod_nonneg (q.co 0) (show p ≠ 0 by omega)
      have hb2 := Int.emod_lt_of_pos (q.co 0) (show 0 < p by omega)
      obtain ⟨e0, e1, e2, e3⟩ := he
      refine no (q.co 0 % p) (by omega) hb2 (q.co 1) (d.co 0) (d.co 1) ⟨?_, ?_, ?_, e3⟩ <;> rw [zq_iff] at * <;> simp only [zq_add, zq_mul, zq_mod] at * <;> assumption
    · have r1 : Red p [b, a, 1] := Red.of (by omega) fun x hx => by
        simp only [List.mem_cons, List.not_mem_nil, or_false] at hx
        rcases hx with rfl | rfl | rfl <;> omega
      have r2 : Red p [d, c, 1] := Red.of (by omega) fun x hx => by
        simp only [List.mem_cons, List.not_mem_nil, or_false] at hx
        rcases hx with rfl | rfl | rfl <;> omega
      have m1 : Mp p [b, a, 1] := ⟨r1, by simp, rfl⟩
      have m2 : Mp p [d, c, 1] := ⟨r2, by simp, rfl⟩
      have ee : Eqp p (PZ.of [f0, f1, f2, f3, 1]) (PZ.of [b, a, 1] * PZ.of [d, c, 1]) := Eqp.cg.mpr (pair_mul.mp he)
      have n1 : NoRoot p [b, a, 1] := noRoot_dv hn (h := PZ.of [d, c, 1]) (by rw [show PZ.of [d, c, 1] * PZ.of [b, a, 1] = PZ.of [b, a, 1] * PZ.of [d, c, 1] by grind]; exact ee)
      have n2 : NoRoot p [d, c, 1] := noRoot_dv hn ee
      have t1 : Pt p [b, a, 1] := ⟨m1, by simp, T.irp_of h (m1.mon (n := 2) rfl) (by simp) (by simp) n1 fun z => by simp at z⟩
      have t2 : Pt p [d, c, 1] := ⟨m2, by simp, T.irp_of h (m2.mon (n := 2) rfl) (by simp) (by simp) n2 fun z => by simp at z⟩
      rw [bind_ok, if_neg (show ¬ (some [[b, a, 1], [d, c, 1]]).isNone = true from fun z => nomatch z), unO_some, bind_ok, bind_ok, pg0, bind_ok, pg1, bind_ok, bind_ok]
      by_cases heq : ([b, a, 1] : List Int) = [d, c, 1]
      · rw [decide_eq_true heq, if_pos rfl, bind_ok, bind_ok, psz_ok (by simp)]
        refine .ok ⟨fun x hx => ?_, ?_, .inr (.inl ⟨_, _, rfl, by simp, by decide⟩)⟩
        · rw [List.mem_singleton.mp hx]; exact ⟨t1, by show (1 : Int) ≤ 2; decide⟩
        · show Eqp p _ (PZ.of [b, a, 1] ^ 2 * 1)
          rw [show PZ.of [b, a, 1] ^ 2 * 1 = PZ.of [b, a, 1] * PZ.of [b, a, 1] by grind]
          rw [← heq] at ee
          exact ee
      · rw [decide_eq_false heq, if_neg (by decide)]
        have hso := sortOk_pair (x := [b, a, 1]) (y := [d, c, 1]) p2 rfl rfl ⟨by simp, by simp, r1.mem⟩ ⟨by simp, by simp, r2.mem⟩
        have hp := sortT_perm [[b, a, 1], [d, c, 1]]
        have hpw : (sortT [[b, a, 1], [d, c, 1]]).Pairwise fun x y => decide (TS.code 1000 x ≤ TS.code 1000 y) = true :=
          List.pairwise_mergeSort (fun x y z h1 h2 => by simp at *; omega) (fun x y => by simp; omega) _
        unfold psortT
        rw [bind_ok, grd_pos hso, bind_ok]
        generalize sortT [[b, a, 1], [d, c, 1]] = S at hp hpw
        have hS : S = [[b, a, 1], [d, c, 1]] ∨ S = [[d, c, 1], [b, a, 1]] := by
          match S, hp.length_eq, hp with
          | [u, v], _, hp =>
            have hu : u ∈ [[b, a, 1], [d, c, 1]] := hp.mem_iff.mp (by simp)
            simp only [List.mem_cons, List.not_mem_nil, or_false] at hu
            rcases hu with rfl | rfl
            · left
              have := List.perm_singleton.mp (List.Perm.cons_inv hp)
              simpa using this
            · right
              have h2 := hp.trans (List.Perm.swap _ _ [])
              have := List.Perm.cons_inv h2
              have := List.perm_singleton.mp this
              simpa using this
        rw [mapC_ok (g := fun g17 : List Int => (g17, (1 : Int))) (fun _ _ => rfl) (by rw [sizeLineE]; rcases hS with rfl | rfl <;> simp)]
        rcases hS with rfl | rfl
        · refine .ok ⟨fun x hx => ?_, ?_, .inr (.inr ⟨_, _, rfl, rfl, rfl, heq, by simpa using hpw⟩)⟩
          · simp only [List.map_cons, List.map_nil, List.mem_cons, List.not_mem_nil, or_false] at hx
            rcases hx with rfl | rfl
            · exact ⟨t1, by show (1 : Int) ≤ 1; decide⟩
            · exact ⟨t2, by show (1 : Int) ≤ 1; decide⟩
          · show Eqp p _ (PZ.of [b, a, 1] ^ 1 * (PZ.of [d, c, 1] ^ 1 * 1))
            rw [show PZ.of [b, a, 1] ^ 1 * (PZ.of [d, c, 1] ^ 1 * 1) = PZ.of [b, a, 1] * PZ.of [d, c, 1] by grind]
            exact ee
        · refine .ok ⟨fun x hx => ?_, ?_, .inr (.inr ⟨_, _, rfl, rfl, rfl, fun z => heq z.symm, by simpa using hpw⟩)⟩
          · simp only [List.map_cons, List.map_nil, List.mem_cons, List.not_mem_nil, or_false] at hx
            rcases hx with rfl | rfl
            · exact ⟨t2, by show (1 : Int) ≤ 1; decide⟩
            · exact ⟨t1, by show (1 : Int) ≤ 1; decide⟩
          · show Eqp p _ (PZ.of [d, c, 1] ^ 1 * (PZ.of [b, a, 1] ^ 1 * 1))
            rw [show PZ.of [d, c, 1] ^ 1 * (PZ.of [b, a, 1] ^ 1 * 1) = PZ.of [b, a, 1] * PZ.of [d, c, 1] by grind]
            exact ee
  · rw [decide_eq_false (show ¬ (f.length : Int) = 5 by omega), if_neg (by decide), bind_ok, bind_ok, if_pos (show (none : Option (List (List Int))).isNone = true from rfl)]
    exact .ok (whole fun d q z => absurd z hl)
end
end T
set_option maxRecDepth 100000
set_option maxHeartbeats 4000000
namespace T
open PySem PySem.Spec PyProof.Rows L2
section
variable {p : Int}
theorem ev_arg {x y : Int} (h : Cg p x y) : ∀ f : List Int, Cg p (ev f x) (ev f y)
  | [] => .refl _ _
  | a :: f => (Cg.refl p a).add (h.mul (ev_arg h f))
/-- the linear factors of a split -/
structure Lins (i : Int) (l : List (List Int × Int)) : Prop where
  mem : ∀ x ∈ l, ∃ low e, x = ([low, 1], e) ∧ 0 ≤ low ∧ low < i ∧ 1 ≤ e
  up : l.Pairwise fun a b => co a.1 0 < co b.1 0
theorem Lins.nil : Lins 0 [] := ⟨(fun x h => nomatch h), List.Pairwise.nil⟩
theorem Lins.mono {i j : Int} {l : List (List Int × Int)} (h : Lins i l) (hij : i ≤ j) : Lins j l := ⟨fun x hx => by
  obtain ⟨low, e, h1, h2, h3, h4⟩ := h.mem x hx
  exact ⟨low, e, h1, h2, by omega, h4⟩, h.up⟩
theorem Lins.snoc {i e : Int} {l : List (List Int × Int)} (h : Lins i l) (hi : 0 ≤ i) (he : 1 ≤ e) : Lins (i + 1) (l ++ [([i, 1], e)]) := ⟨fun x hx => by
  rcases List.mem_append.mp hx with z | z
  · exact (h.mono (by omega)).mem x z
  · exact ⟨i, e, List.mem_singleton.mp z, hi, by omega, he⟩, by
  rw [List.pairwise_append]
  refine ⟨h.up, List.pairwise_singleton _ _, fun a ha b hb => ?_⟩
  obtain ⟨low, e', rfl, h2, h3, h4⟩ := h.mem a ha
  rw [List.mem_singleton.mp hb]
  exact h3⟩
/-- the split of a monic polynomial modulo p -/
structure Split (p : Int) (f : List Int) (l : List (List Int × Int)) : Prop where
  pts : ∀ x ∈ l, Pt p x.1 ∧ 1 ≤ x.2
  mul : Eqp p (PZ.of f) (prodP l)
  ord : ∃ lins rest, l = lins ++ rest ∧ Lins p lins ∧ Rest rest
theorem red_lin {low : Int} (h0 : 0 ≤ low) (h1 : low < p) (p1 : 1 < p) : Red p [low, 1] := Red.of (by omega) fun x hx => by
  simp only [List.mem_cons, List.not_mem_nil, or_false] at hx
  rcases hx with rfl | rfl <;> omega
theorem pt_lin {low : Int} (h0 : 0 ≤ low) (h1 : low < p) (p1 : 1 < p) : Pt p [low, 1] := ⟨⟨red_lin h0 h1 p1, by simp, rfl⟩, by simp, irp_lin low⟩
theorem split_by_ok {f : List Int} {d : Nat} (h : p ∈ primesL) (hl : f.length = d + 1) (h1 : co f d = 1) (hd1 : 1 ≤ d) (hd4 : d ≤ 4) : Tot (m_split_by f p) (Split p f) := by
  obtain ⟨p1, p2⟩ := pr_bd h
  have hmon : (PZ.of f).Mon d := ⟨fun t ht => co_out (by omega), h1⟩
  obtain ⟨m0, l0⟩ := mp_of p1 (modP_cut p f) (modP_red (by omega) f) hmon (Eqp.cg.mpr (modP_cg p f))
  have e0 : Eqp p (PZ.of f) (PZ.of (modP p f)) := (Eqp.cg.mpr (modP_cg p f)).symm
  unfold m_split_by
  rw [mem_primes h, bind_ok, if_neg (by decide), mod_poly_ok (by omega) (by omega), bind_ok, bind_ok]
  generalize modP p f = left0 at m0 l0 e0
  refine .bind (P := fun s : List Int × List (List Int × Int) => Mp p s.1 ∧ s.1.length ≤ 5 ∧ Eqp p (PZ.of f) (prodP s.2 * PZ.of s.1) ∧ Lins p s.2 ∧ NoRoot p s.1 ∧ s.2.length ≤ 300) ?_ fun s hs => ?_
  · refine .bind (.prangeI (by omega) (by omega)) fun xs hxs => ?_
    subst hxs
    refine (Tot.loopMi (fun i (s : List Int × List (List Int × Int)) => Mp p s.1 ∧ s.1.length ≤ 5 ∧ Eqp p (PZ.of f) (prodP s.2 * PZ.of s.1) ∧ Lins (i : Int) s.2 ∧ (∀ low : Int, 0 ≤ low → low < i → ¬ Cg p (ev s.1 (-low)) 0) ∧ s.2.length ≤ i) (c := (left0, ([] : List (List Int × Int)))) ⟨m0, by show left0.length ≤ 5; omega, by
        show Eqp p _ (1 * PZ.of left0)
        rw [show 1 * PZ.of left0 = PZ.of left0 by grind]
        exact e0, Lins.nil, fun low a b => by omega, Nat.le_refl _⟩ fun i s low hlow hs => ?_).mono fun s hs => ?_
    · obtain ⟨rfl, hi⟩ := range_get hlow
      obtain ⟨c1, c2, c3, c4, c5, c6⟩ := hs
      obtain ⟨left, parts⟩ := s
      dsimp only at c1 c2 c3 c4 c5 c6 ⊢
      rw [bind_ok]
      refine .bind (Tot.whileM (fun s : List Int × Int => Mp p s.1 ∧ s.1.length ≤ 5 ∧ ∃ k : Nat, s.2 = k ∧ Eqp p (PZ.of left) (PZ.of [(i : Int), 1] ^ k * PZ.of s.1)) (fun s => s.1.length) (c := (left, (0 : Int))) ⟨c1, c2, 0, rfl, by
          show Eqp p _ (PZ.of [(i : Int), 1] ^ 0 * PZ.of left)
          rw [show PZ.of [(i : Int), 1] ^ 0 * PZ.of left = PZ.of left by grind]
          exact .refl _ _⟩ fun c hc => ?_) fun c hc => ?_
      · obtain ⟨lc, oc⟩ := c
        obtain ⟨d1, d2, k, d3, d4⟩ := hc
        dsimp only at d1 d2 d3 d4 ⊢
        rw [bind_ok]
        by_cases hl1 : 1 < lc.length
        · rw [if_pos (decide_eq_true (show (1 : Int) < (lc.length : Int) by omega)), mod_at_ok (by omega) (by omega), bind_ok]
          refine .ok fun hz => ?_
          have hz := of_decide_eq_true hz
          have hr : Cg p (ev lc (-(i : Int))) 0 := Cg.iff.mpr (by rw [hz, Int.zero_emod])
          simp only [bind_bind, bind_okS]
          refine .bind (part_root_ok h (by omega) (by omega) d1 hl1 (by omega) hr) fun r hr => ?_
          obtain ⟨r1, r2, r3⟩ := hr
          refine .ok ⟨⟨r1, by dsimp only; omega, k + 1, by dsimp only; omega, ?_⟩, by dsimp only; omega⟩
          refine d4.trans ?_
          have := (Eqp.refl p (PZ.of [(i : Int), 1] ^ k)).mul r3
          rw [Lean.Grind.Semiring.pow_succ]
          rwa [show PZ.of [(i : Int), 1] ^ k * PZ.of [(i : Int), 1] * PZ.of r.1 = PZ.of [(i : Int), 1] ^ k * (PZ.of [(i : Int), 1] * PZ.of r.1) by grind]
        · rw [decide_eq_false (show ¬ (1 : Int) < (lc.length : Int) by omega), if_neg (by decide)]
          exact .ok fun z => nomatch z
      · obtain ⟨lc, oc⟩ := c
        obtain ⟨⟨d1, d2, k, d3, d4⟩, hexit⟩ := hc
        dsimp only at d1 d2 d3 d4 hexit ⊢
        -- no root left at i
        have hni : ¬ Cg p (ev lc (-(i : Int))) 0 := fun hr => by
          rw [bind_ok] at hexit
          by_cases hl1 : 1 < lc.length
          · rw [if_pos (decide_eq_true (show (1 : Int) < (lc.length : Int) by omega)), mod_at_ok (by omega) (by omega), bind_ok] at hexit
            have hz := Cg.iff.mp hr
            rw [Int.zero_emod] at hz
            rw [hz] at hexit
            cases hexit
          · have hlen : lc.length = 1 := by have := d1.pos; omega
            match lc, hlen with
            | [a], _ =>
              have ha : a = 1 := d1.last
              subst ha
              have h2 : ev [1] (-(i : Int)) = 1 := by show 1 + -(i : Int) * 0 = 1; omega
              rw [h2] at hr
              have := hr.small (by omega) (by omega) (by omega) (by omega)
              omega
        have hnl : ∀ low : Int, 0 ≤ low → low < (i : Int) + 1 → ¬ Cg p (ev lc (-low)) 0 := fun low a b hr => by
          by_cases e : low = i
          · rw [e] at hr; exact hni hr
          · obtain ⟨g, hg⟩ := PZ.rep (PZ.of [(i : Int), 1] ^ k)
            rw [hg] at d4
            have := eqp_ev (f := left) (g := mulP g lc) d4 (-low)
            rw [mulP_ev] at this
            have h3 := (Cg.refl p (ev g (-low))).mul hr
            rw [Int.mul_zero] at h3
            exact c5 low a (by omega) (this.trans h3)
        rw [bind_ok]
        by_cases hk : (0 : Int) < oc
        · rw [decide_eq_true hk, if_pos rfl]
          refine .bind (.papp (by omega)) fun q hq => ?_
          rw [hq]
          refine .ok ⟨d1, d2, ?_, ?_, fun low a b => hnl low a (by omega), ?_⟩
          · dsimp only
            rw [prodP_app]
            show Eqp p _ (prodP parts * (PZ.of [(i : Int), 1] ^ oc.toNat * 1) * PZ.of lc)
            rw [d3, Int.toNat_natCast]
            refine c3.trans ?_
            have := (Eqp.refl p (prodP parts)).mul d4
            rwa [show prodP parts * (PZ.of [(i : Int), 1] ^ k * 1) * PZ.of lc = prodP parts * (PZ.of [(i : Int), 1] ^ k * PZ.of lc) by grind]
          · have := c4.snoc (e := oc) (by omega) (by omega)
            rwa [show ((i + 1 : Nat) : Int) = (i : Int) + 1 by omega]
          · dsimp only; rw [List.length_append]; simp only [List.length_cons, List.length_nil]; omega
        · rw [decide_eq_false hk, if_neg (by decide)]
          have hk0 : k = 0 := by omega
          subst hk0
          refine .ok ⟨d1, d2, ?_, c4.mono (by omega), fun low a b => hnl low a (by omega), by dsimp only; omega⟩
          refine c3.trans ?_
          have := (Eqp.refl p (prodP parts)).mul d4
          rwa [show prodP parts * (PZ.of [(i : Int), 1] ^ 0 * PZ.of lc) = prodP parts * PZ.of lc by grind] at this
    · obtain ⟨c1, c2, c3, c4, c5, c6⟩ := hs
      rw [rangeL_len] at c4 c5 c6
      have hpn : ((p.toNat : Nat) : Int) = p := by omega
      rw [hpn] at c4 c5
      refine ⟨c1, c2, c3, c4, fun r hr => ?_, by omega⟩
      refine c5 ((-r) % p) (Int.emod_nonneg _ (by omega)) (Int.emod_lt_of_pos _ (by omega)) (Cg.trans (ev_arg ?_ _) hr)
      have := (Cg.mod p (-r)).neg
      rwa [Int.neg_neg] at this
  · obtain ⟨c1, c2, c3, c4, c5, c6⟩ := hs
    obtain ⟨left, parts⟩ := s
    dsimp only at c1 c2 c3 c4 c5 c6 ⊢
    have pl : ∀ x ∈ parts, Pt p x.1 ∧ 1 ≤ x.2 := fun x hx => by
      obtain ⟨low, e, rfl, a, b, c⟩ := c4.mem x hx
      exact ⟨pt_lin a b p1, c⟩
    rw [bind_ret, bind_ok]
    by_cases hl1 : 1 < left.length
    · rw [decide_eq_true (show (1 : Int) < (left.length : Int) by omega), if_pos rfl, bind_ret]
      have h3 : 3 ≤ left.length := by
        apply Classical.byContradiction
        intro z
        have hlen : left.length = 2 := by omega
        match left, hlen with
        | [a, b], _ =>
          have hb : b = 1 := c1.last
          subst hb
          exact c5 (-a) (.of_eq (show a + -a * (1 + -a * 0) = 0 by grind))
      refine .bind (rootless_ok h c1 h3 c2 c5) fun l hl => ?_
      obtain ⟨q1, q2, q3⟩ := hl
      have hlen : l.length ≤ 2 := by rcases q3 with rfl | ⟨_, _, rfl, _⟩ | ⟨_, _, rfl, _⟩ <;> simp
      refine (Tot.pcat (by omega)).mono fun q hq => ?_
      rw [hq]
      refine ⟨fun x hx => ?_, ?_, parts, l, rfl, c4, q3⟩
      · rcases List.mem_append.mp hx with z | z
        · exact pl x z
        · exact q1 x z
      · rw [prodP_app]
        exact c3.trans ((Eqp.refl p _).mul q2)
    · rw [decide_eq_false (show ¬ (1 : Int) < (left.length : Int) by omega), if_neg (by decide)]
      have hlen : left.length = 1 := by have := c1.pos; omega
      match left, hlen, c1, c3 with
      | [a], _, c1, c3 =>
        have ha : a = 1 := c1.last
        subst ha
        refine .ok ⟨pl, ?_, parts, [], by simp, c4, .inl rfl⟩
        rw [PZ.of_one, show prodP parts * 1 = prodP parts by grind] at c3
        exact c3
end
end T
set_option maxRecDepth 100000
set_option maxHeartbeats 4000000
namespace T
open PySem PySem.Spec PyProof.Rows L2
/-! ### a ring that is whole at a prime (Dedekind) -/
/-- the rule: no double factor whose rest p p divides -/
structure WholeAt (F : NF) (p : Int) : Prop where
  pr : InvP p
  ex : ∃ l : List (PZ × Nat × Nat), (∀ x ∈ l, Irp p x.1 x.2.1 ∧ 1 ≤ x.2.2 ∧ (2 ≤ x.2.2 → ∃ q s : PZ, F.f = q * x.1 + s ∧ s.Bd x.2.1 ∧ ¬ s.Dvp (p * p))) ∧ l.Pairwise (fun x y => ¬ Dvm p x.1 y.1) ∧ Eqp p F.f (l.foldr (fun x b => x.1 ^ x.2.2 * b) 1)
section
variable {α : Type} [Lean.Grind.CommRing α]
theorem cr_mul_pow (a b : α) : ∀ m : Nat, (a * b) ^ m = a ^ m * b ^ m
  | 0 => by rw [Lean.Grind.Semiring.pow_zero, Lean.Grind.Semiring.pow_zero, Lean.Grind.Semiring.pow_zero]; grind
  | m + 1 => by
    rw [Lean.Grind.Semiring.pow_succ, Lean.Grind.Semiring.pow_succ, Lean.Grind.Semiring.pow_succ, cr_mul_pow a b m]
    grind
end
variable {F : NF} {p : Int}
/-- a row as a polynomial at a number -/
def hev : List Int → F.R → F.R
  | [], _ => 0
  | a :: O, x => (a : F.R) + x * hev O x
/-- places divided by the powers of p, from the top -/
def Fall (p : Int) : List Int → Prop
  | [] => False
  | [a] => a = 1
  | a :: b :: O => (∃ d : Int, a = p ^ (b :: O).length * d) ∧ Fall p (b :: O)
theorem fall_low : ∀ {O : List Int}, Fall p O → ∀ x : F.R, ∃ z : F.R, hev O x = x ^ (O.length - 1) + (p : F.R) * z
  | [], h, _ => h.elim
  | [a], h, x => ⟨0, by
    have h : a = 1 := h
    subst h
    show ((1 : Int) : F.R) + x * 0 = x ^ 0 + (p : F.R) * 0
    rw [Lean.Grind.Semiring.pow_zero]
    grind⟩
  | a :: b :: O, ⟨⟨d, hd⟩, h⟩, x => by
    obtain ⟨z, e⟩ := fall_low h x
    have e1 : (b :: O).length - 1 = O.length := rfl
    have e2 : (a :: b :: O).length - 1 = O.length + 1 := rfl
    rw [e1] at e
    rw [e2, Lean.Grind.Semiring.pow_succ]
    show ∃ z', (a : F.R) + x * hev (b :: O) x = x ^ O.length * x + (p : F.R) * z'
    rw [e, hd, List.length_cons, Int.pow_succ]
    refine ⟨((p ^ O.length * d : Int) : F.R) + x * z, ?_⟩
    have : ((p ^ O.length * p * d : Int) : F.R) = (p : F.R) * ((p ^ O.length * d : Int) : F.R) := by
      rw [show p ^ O.length * p * d = p * (p ^ O.length * d) by grind]
      grind
    rw [this]
    grind
/-- .. at a number whose r-fold is A y, where p r is - A g k -/
theorem fall_high {r x A y g k : F.R} (hx : r * x = A * y) (hp : (p : F.R) * r = -(A * g * k)) : ∀ {O : List Int}, Fall p O → ∃ z : F.R, r ^ (O.length - 1) * hev O x = A ^ (O.length - 1) * (y ^ (O.length - 1) + g * z)
  | [], h => h.elim
  | [a], h => ⟨0, by
    have h : a = 1 := h
    subst h
    show r ^ 0 * (((1 : Int) : F.R) + x * 0) = A ^ 0 * (y ^ 0 + g * 0)
    rw [Lean.Grind.Semiring.pow_zero, Lean.Grind.Semiring.pow_zero, Lean.Grind.Semiring.pow_zero]
    grind⟩
  | a :: b :: O, ⟨⟨d, hd⟩, h⟩ => by
    obtain ⟨z, e⟩ := fall_high hx hp h
    have e1 : (b :: O).length - 1 = O.length := rfl
    have e2 : (a :: b :: O).length - 1 = O.length + 1 := rfl
    rw [e1] at e
    rw [e2, Lean.Grind.Semiring.pow_succ, Lean.Grind.Semiring.pow_succ, Lean.Grind.Semiring.pow_succ]
    show ∃ z', r ^ O.length * r * ((a : F.R) + x * hev (b :: O) x) = A ^ O.length * A * (y ^ O.length * y + g * z')
    have ha : (a : F.R) = (p : F.R) ^ O.length * (p : F.R) * (d : F.R) := by
      rw [hd, List.length_cons]
      have pw : ∀ m : Nat, ((p ^ m : Int) : F.R) = (p : F.R) ^ m := by
        intro m
        induction m with
        | zero => rw [Int.pow_zero, Lean.Grind.Semiring.pow_zero]; rfl
        | succ m ih => rw [Int.pow_succ, Lean.Grind.Semiring.pow_succ, ← ih]; grind
      have : ((p ^ (O.length + 1) * d : Int) : F.R) = ((p ^ (O.length + 1) : Int) : F.R) * (d : F.R) := by grind
      rw [this, pw, Lean.Grind.Semiring.pow_succ]
    have hpow : (p : F.R) ^ O.length * r ^ O.length = A ^ O.length * (-(g * k)) ^ O.length := by
      rw [← cr_mul_pow, ← cr_mul_pow, hp]
      congr 1
      grind
    refine ⟨y * z + (d : F.R) * (-(g * k)) ^ O.length * (-k), ?_⟩
    rw [ha]
    generalize hev (b :: O) x = H at e
    generalize (p : F.R) ^ O.length = pn at hpow
    generalize r ^ O.length = rn at e hpow
    generalize A ^ O.length = An at e hpow
    generalize y ^ O.length = yn at e
    generalize (-(g * k)) ^ O.length = gn at hpow
    -- rn r (pn p d + x H)
    have s1 : rn * r * (pn * (p : F.R) * (d : F.R)) = An * gn * (-(A * g * k)) * (d : F.R) := by
      have : rn * r * (pn * (p : F.R) * (d : F.R)) = (pn * rn) * ((p : F.R) * r) * (d : F.R) := by grind
      rw [this, hpow, hp]
    have s2 : rn * r * (x * H) = A * y * (An * (yn + g * z)) := by
      have : rn * r * (x * H) = (r * x) * (rn * H) := by grind
      rw [this, hx, e]
    grind
/-- what is nought in R is a multiple of f -/
theorem cl_zero {a : PZ} (h : F.cl a = 0) : ∃ u, a = u * F.f := by
  obtain ⟨u, e⟩ := NF.cl_eq.mp (show F.cl a = F.cl 0 from h)
  exact ⟨u, by grind⟩
theorem prod_dvm {X : PZ} (hp : InvP p) : ∀ (l : List (PZ × Nat × Nat)), (∀ x ∈ l, Irp p x.1 x.2.1) → l.Pairwise (fun x y => ¬ Dvm p x.1 y.1) → (∀ x ∈ l, Dvm p (x.1 ^ x.2.2) X) → Dvm p (l.foldr (fun x b => x.1 ^ x.2.2 * b) 1) X
  | [], _, _, _ => ⟨X, 0, by show X = X * 1 + _; grind⟩
  | x :: l, hi, hw, hd => by
    obtain ⟨w1, w2⟩ := List.pairwise_cons.mp hw
    obtain ⟨X', c, e⟩ := hd x List.mem_cons_self
    have ih := prod_dvm (X := X') hp l (fun y hy => hi y (List.mem_cons_of_mem _ hy)) w2 fun y hy => by
      have h1 := hd y (List.mem_cons_of_mem _ hy)
      have hyi := hi y (List.mem_cons_of_mem _ hy)
      have hxi := hi x List.mem_cons_self
      refine hyi.cancel hp (a := x.1 ^ x.2.2) (fun z => ?_) (Dvm.congr ⟨c, by rw [e]; grind⟩ h1 : Dvm p (y.1 ^ y.2.2) (x.1 ^ x.2.2 * X'))
      have hz := hyi.pow hp _ z
      obtain ⟨_, e2⟩ := hyi.eq_of hp hxi hz
      exact w1 y hy (Dvm.congr e2.symm Dvm.self)
    obtain ⟨q, d, e2⟩ := ih
    refine ⟨q, c + x.1 ^ x.2.2 * d, ?_⟩
    show X = q * (x.1 ^ x.2.2 * l.foldr (fun x b => x.1 ^ x.2.2 * b) 1) + _
    rw [e, e2]
    grind
theorem foldr_mem {l : List (PZ × Nat × Nat)} {x : PZ × Nat × Nat} (hx : x ∈ l) : ∃ k : PZ, l.foldr (fun x b => x.1 ^ x.2.2 * b) 1 = x.1 ^ x.2.2 * k := by
  induction l with
  | nil => exact nomatch hx
  | cons y l ih =>
    rcases List.mem_cons.mp hx with rfl | hx
    · exact ⟨_, rfl⟩
    · obtain ⟨k, e⟩ := ih hx
      exact ⟨y.1 ^ y.2.2 * k, by show y.1 ^ y.2.2 * l.foldr _ 1 = _; rw [e]; grind⟩
/-- the greatest power that divides -/
theorem most_dvm (g X : PZ) : ∀ e : Nat, Dvm p (g ^ e) X ∨ ∃ a u w : _, a < e ∧ X = g ^ a * u + (p : PZ) * w ∧ ¬ Dvm p g u
  | 0 => .inl ⟨X, 0, by rw [Lean.Grind.Semiring.pow_zero]; grind⟩
  | e + 1 => by
    rcases most_dvm g X e with ⟨u, w, h⟩ | ⟨a, u, w, h1, h2, h3⟩
    · by_cases hu : Dvm p g u
      · obtain ⟨q, c, hq⟩ := hu
        exact .inl ⟨q, w + c * g ^ e, by rw [Lean.Grind.Semiring.pow_succ, h, hq]; grind⟩
      · exact .inr ⟨e, u, w, Nat.lt_succ_self e, by rw [h]; grind, hu⟩
    · exact .inr ⟨a, u, w, by omega, h2, h3⟩
theorem whole_at (hi : F.Irr) (hw : WholeAt F p) {x : F.R} {O : List Int} (hO : Fall p O) (hl : 2 ≤ O.length) (h0 : hev O x = 0) : NF.Dvp p x := by
  obtain ⟨l, h1, h2, h3⟩ := hw.ex
  have hp := hw.pr
  have all : ∀ y ∈ l, Dvm p (y.1 ^ y.2.2) (NF.lo x) := by
    rintro ⟨g, m, e⟩ hy
    obtain ⟨ig, he, hr⟩ := h1 _ hy
    dsimp only at ig he hr ⊢
    obtain ⟨k, hk⟩ := foldr_mem hy
    dsimp only at hk
    have gf : Dvm p g F.f := by
      refine Dvm.congr h3.symm ?_
      rw [hk]
      obtain ⟨e', rfl⟩ : ∃ e', e = e' + 1 := ⟨e - 1, by omega⟩
      rw [Lean.Grind.Semiring.pow_succ]
      exact ⟨g ^ e' * k, 0, by grind⟩
    rcases most_dvm (p := p) g (NF.lo x) e with h | ⟨a, u, w, ha, hX, hu⟩
    · exact h
    · exfalso
      by_cases he1 : e = 1
      · -- a single factor
        have ha0 : a = 0 := by omega
        subst ha0
        rw [Lean.Grind.Semiring.pow_zero] at hX
        obtain ⟨z, ez⟩ := fall_low hO x
        rw [h0] at ez
        obtain ⟨Z, rfl⟩ := NF.rep z
        have ec : F.cl (NF.lo x ^ (O.length - 1) + (p : PZ) * Z) = 0 := by
          rw [NF.cl_add, NF.cl_pow, NF.cl_lo, NF.cl_mul, NF.cl_int]; exact ez.symm
        obtain ⟨v, ev⟩ := cl_zero ec
        have hd : Dvm p g (NF.lo x ^ (O.length - 1)) := by
          have : NF.lo x ^ (O.length - 1) = v * F.f - (p : PZ) * Z := by grind
          rw [this]
          exact (gf.mul v).sub (Dvm.of_dvp (PZ.dvp_iff.mpr ⟨Z, rfl⟩))
        have hxg := ig.pow hp _ hd
        rw [hX] at hxg
        have : Dvm p g u := by
          have h5 : u = 1 * u + (p : PZ) * w - (p : PZ) * w := by grind
          rw [h5]
          exact hxg.sub (Dvm.of_dvp (PZ.dvp_iff.mpr ⟨w, rfl⟩))
        exact hu this
      · obtain ⟨q, s, ef, bs, ns⟩ := hr (by omega)
        -- s = p s1
        have gs : Dvm p g s := by
          have : s = F.f - q * g := by grind
          rw [this]
          exact gf.sub Dvm.right
        obtain ⟨s1, es⟩ := PZ.dvp_iff.mp (dvm_low ig.mon bs gs)
        have hp0 : p ≠ 0 := by have := hp.pr.1; omega
        have bs1 : s1.Bd m := fun t ht => by
          have := bs t ht
          rw [es, PZ.co_int_mul] at this
          rcases Int.mul_eq_zero.mp this with z | z
          · exact absurd z hp0
          · exact z
        have ns1 : ¬ Dvm p g s1 := fun z => ns fun t => by
          obtain ⟨j, hj⟩ := dvm_low ig.mon bs1 z t
          exact ⟨j, by rw [es, PZ.co_int_mul, hj]; grind⟩
        -- q = g ^ (e - 1) k + p q'
        obtain ⟨e', rfl⟩ : ∃ e', e = e' + 1 := ⟨e - 1, by omega⟩
        have hq : Eqp p q (g ^ e' * k) := by
          rw [Eqp.iff]
          have hd : ((q - g ^ e' * k) * g).Dvp p := by
            rw [hk] at h3
            obtain ⟨c, ec⟩ := h3
            rw [Lean.Grind.Semiring.pow_succ] at ec
            exact PZ.dvp_iff.mpr ⟨c - s1, by grind⟩
          rcases PZ.dvp_mul hp.pr hd with z | z
          · exact z
          · have := z m
            rw [ig.mon.top] at this
            have h1 := hp.pr.1
            have := Int.le_of_dvd (by decide) this
            omega
        obtain ⟨q', eq⟩ := hq
        -- f = g ^ e k + p r
        have ef2 : F.f = g ^ e' * g * k + (p : PZ) * (q' * g + s1) := by rw [ef, es, eq]; grind
        have nr : ¬ Dvm p g (q' * g + s1) := fun z => ns1 (by
          have : s1 = (q' * g + s1) - q' * g := by grind
          rw [this]
          exact z.sub Dvm.right)
        generalize q' * g + s1 = r at ef2 nr
        obtain ⟨b, hb⟩ : ∃ b, e' = a + b := ⟨e' - a, by omega⟩
        have hgp : g ^ e' = g ^ a * g ^ b := by
          rw [hb]
          clear hb ef2 hX ha hk hr
          induction b with
          | zero => rw [Nat.add_zero, Lean.Grind.Semiring.pow_zero]; grind
          | succ b ih => rw [← Nat.add_assoc, Lean.Grind.Semiring.pow_succ, Lean.Grind.Semiring.pow_succ, ih]; grind
        -- p r = - A g k1
        have c1 : (p : F.R) * F.cl r = -(F.cl (g ^ a) * F.cl g * F.cl (g ^ b * k)) := by
          have := congrArg F.cl ef2
          rw [NF.cl_f, NF.cl_add, NF.cl_mul, NF.cl_mul, NF.cl_mul, NF.cl_int, hgp, NF.cl_mul] at this
          rw [NF.cl_mul]
          grind
        have c2 : F.cl r * x = F.cl (g ^ a) * F.cl (u * r - g * (g ^ b * k) * w) := by
          have hx : x = F.cl (g ^ a) * F.cl u + (p : F.R) * F.cl w := by
            rw [← NF.cl_lo x, hX, NF.cl_add, NF.cl_mul, NF.cl_mul, NF.cl_int]
          rw [hx, NF.cl_sub, NF.cl_mul, NF.cl_mul, NF.cl_mul]
          grind
        have ny : ¬ Dvm p g (u * r - g * (g ^ b * k) * w) := fun z => by
          have h5 : Dvm p g (u * r) := by
            have : u * r = (u * r - g * (g ^ b * k) * w) + g * ((g ^ b * k) * w) := by grind
            rw [this]
            exact z.add Dvm.left
          rcases ig.prime hp h5 with z | z
          · exact hu z
          · exact nr z
        generalize u * r - g * (g ^ b * k) * w = y at c2 ny
        obtain ⟨z, ez⟩ := fall_high c2 c1 hO
        rw [h0] at ez
        -- g is not nought in R
        have hmn : m < F.n := by
          have hmk : (g ^ (e' + 1)).Mon (m * (e' + 1)) := by
            have key : ∀ j : Nat, (g ^ j).Mon (m * j) := by
              intro j
              induction j with
              | zero => rw [Lean.Grind.Semiring.pow_zero, Nat.mul_zero]; exact ⟨fun t ht => by rw [PZ.co_one, if_neg (by omega)], rfl⟩
              | succ j ih =>
                rw [Lean.Grind.Semiring.pow_succ, Nat.mul_succ]
                obtain ⟨t1, t2⟩ := PZ.mul_top ih.bd ig.mon.bd
                exact ⟨t1, by rw [t2, ih.top, ig.mon.top]; rfl⟩
            exact key _
          apply Classical.byContradiction
          intro hge
          have hpos := ig.pos
          have h2m : F.n < m * (e' + 1) := by
            have : m * 2 ≤ m * (e' + 1) := Nat.mul_le_mul_left m (by omega)
            omega
          have hdv : Dvm p (g ^ (e' + 1)) F.f := Dvm.congr h3.symm (by rw [hk]; exact Dvm.left)
          have := dvm_low hmk (F.mon.bd.mono (by omega)) hdv F.n
          rw [F.mon.top] at this
          have h1 := hp.pr.1
          have := Int.le_of_dvd (by decide) this
          omega
        have hg0 : F.cl g ≠ 0 := fun z => by
          have hgb : g.Bd F.n := ig.mon.bd.mono (by omega)
          have := NF.low_uniq hgb (PZ.bd_zero _) z
          have h1 := ig.mon.top
          rw [this, PZ.co_zero] at h1
          omega
        have hA : F.cl (g ^ a) ≠ 0 := by rw [NF.cl_pow]; exact NF.pow_ne hi hg0 a
        have hAn := NF.pow_ne hi hA (O.length - 1)
        have hy : F.cl y ^ (O.length - 1) + F.cl g * z = 0 := by
          rcases NF.domain hi (show F.cl (g ^ a) ^ (O.length - 1) * (F.cl y ^ (O.length - 1) + F.cl g * z) = 0 by rw [← ez]; grind) with q | q
          · exact absurd q hAn
          · exact q
        obtain ⟨Z, rfl⟩ := NF.rep z
        have ec : F.cl (y ^ (O.length - 1) + g * Z) = 0 := by rw [NF.cl_add, NF.cl_pow, NF.cl_mul]; exact hy
        obtain ⟨v, ev⟩ := cl_zero ec
        refine ny (ig.pow hp (O.length - 1) ?_)
        have : y ^ (O.length - 1) = v * F.f - g * Z := by grind
        rw [this]
        exact (gf.mul v).sub Dvm.left
  have hd := prod_dvm hp l (fun y hy => (h1 y hy).1) h2 all
  exact dvm_low F.mon (NF.lo_bd x) (Dvm.congr_l h3.symm hd)
end T
set_option maxRecDepth 100000
set_option maxHeartbeats 4000000
namespace T
open PySem PySem.Spec PyProof.Rows L2
/-! ### a polynomial parted by a monic one with small places -/
theorem poly_parted_ok2 {f g u r : List Int} {d : Nat} (hu : Cut u) (hg : g.length = d + 1) (h1 : co g d = 1) (hr : ∀ t, d ≤ t → co r t = 0) (hf : Cut f) (hco : ∀ t, co f t = co (mulP u g) t + co r t)
    (hgb : ∀ x ∈ g, x.natAbs < 18446744073709551616) (hul : u.length ≤ 100000) (hd : d ≤ 100000) : m_poly_parted f g = ok (u, cutP r) := by
  unfold m_poly_parted
  have hdeg : (g.length : Int) - 1 = (d : Int) := by omega
  have hd1 : (d : Int) + 1 = ((d + 1 : Nat) : Int) := by omega
  simp only [bind_okS, bind_ret, hdeg, hd1, prangeI_nat (show d + 1 < 2 ^ 62 by omega)]
  by_cases hn : u = []
  · subst hn
    have hfr : ∀ t, co f t = co r t := fun t => by rw [hco]; show (0 : Int) + _ = _; omega
    have hl : f.length ≤ d := hf.len_le fun t ht => by rw [hfr]; exact hr t ht
    rw [prangeD_ok (by omega) (by omega), bind_ok, show ((f.length : Int) - 1 - d - -1).toNat = 0 by omega]
    rw [show rangeD ((f.length : Int) - 1 - d) 0 = [] from rfl, loopM_nil, bind_ok]
    dsimp only [List.reverse_nil]
    rw [cut_ok, bind_ok, cutL_take, cut_ok, bind_ok]
    congr 2
    refine cutP_congr fun t => ?_
    rw [co_take, hfr]
    split
    · rfl
    · exact (hr t (by omega)).symm
  · have hp : 0 < u.length := List.length_pos_iff.mpr hn
    have htop : co (mulP u g) (u.length + d - 1) = co u (u.length - 1) := by
      have := mulP_top g (by omega) u hp
      rw [hg, show u.length + (d + 1) - 2 = u.length + d - 1 by omega, show d + 1 - 1 = d by omega, h1] at this
      rw [this]; omega
    have hft : co f (u.length + d - 1) ≠ 0 := by
      rw [hco, htop, hr _ (by omega)]
      have := hu.last hn
      omega
    have hfl : f.length = u.length + d := by
      have q1 := co_lt hft
      have q2 := hf.len_le (n := u.length + d) fun t ht => by rw [hco, mulP_out g u t (by omega) (.inr (by omega)), hr t (by omega)]; rfl
      omega
    have hi : (f.length : Int) - 1 - d = ((u.length - 1 : Nat) : Int) := by omega
    rw [hi, prangeD_ok (by omega) (by omega), bind_ok, show (((u.length - 1 : Nat) : Int) - -1).toNat = u.length by omega]
    obtain ⟨c, e, l1, l2, l3, l4⟩ := loopM_inv (f := fun (s6 : (List Int) × (List Int)) at_7 => (M.bind (pget s6.1 (at_7 + (d : Int))) fun part8 => (M.bind (papp s6.2 part8) fun quotient9 => (M.bind (loopM (fun (left10 : (List Int)) j11 => (M.bind (pget left10 (at_7 + j11)) fun u13 => M.bind (M.bind (pget g j11) fun u12 => (pmul part8 u12)) fun u15 => pset left10 (at_7 + j11) (u13 - u15))) (s6.1) (rangeL 0 (d + 1))) fun left16 => ok (left16, quotient9)))))
      (fun k (c : List Int × List Int) => c.1.length = u.length + d ∧ k ≤ u.length ∧ c.2 = (u.drop (u.length - k)).reverse ∧ ∀ t, co c.1 t = co (mulP (u.take (u.length - k)) g) t + co r t) (xs := rangeD ((u.length - 1 : Nat) : Int) u.length) (c := (f, []))
      ⟨hfl, by omega, by simp, fun t => by rw [Nat.sub_zero, List.take_length]; exact hco t⟩ (by
        rintro k ⟨c1, c2⟩ x hx ⟨h2, h3, h4, h5⟩
        dsimp only at h2 h4 h5
        obtain ⟨rfl, hk⟩ := rangeD_at hx (by omega)
        have hm : u.length - k = (u.length - 1 - k) + 1 := by omega
        have hil : u.length - 1 - k < u.length := by omega
        have htk : u.take (u.length - k) = u.take (u.length - 1 - k) ++ [co u (u.length - 1 - k)] := by rw [hm, List.take_succ_eq_append_getElem hil, co_get hil]
        have hpart : co c1 (u.length - 1 - k + d) = co u (u.length - 1 - k) := by
          rw [h5, htk, mulP_snoc, List.length_take, Nat.min_eq_left (by omega), if_pos (by omega), show u.length - 1 - k + d - (u.length - 1 - k) = d by omega, h1, mulP_out g _ _ (by rw [List.length_take]; omega) (.inr (by omega)), hr _ (by omega)]
          omega
        have ed : ((u.length - 1 - k : Nat) : Int) + (d : Int) = ((u.length - 1 - k + d : Nat) : Int) := by omega
        dsimp only
        rw [ed, pget_co (by omega), bind_ok, hpart, papp_ok (by rw [h4, List.length_reverse, List.length_drop]; omega), bind_ok]
        obtain ⟨L', e', l', k'⟩ := addInto (N := u.length + d) (i := u.length - 1 - k) (n := d + 1) (L := c1) (s := fun j => -(co u (u.length - 1 - k) * co g j)) (step := fun (left10 : (List Int)) j11 => (M.bind (pget left10 (((u.length - 1 - k : Nat) : Int) + j11)) fun u13 => M.bind (M.bind (pget g j11) fun u12 => (pmul (co u (u.length - 1 - k)) u12)) fun u15 => pset left10 (((u.length - 1 - k : Nat) : Int) + j11) (u13 - u15))) h2 (by omega) (fun c j hc hj => by
          have ej : ((u.length - 1 - k : Nat) : Int) + (j : Int) = ((u.length - 1 - k + j : Nat) : Int) := by omega
          rw [ej, pget_co (by omega), bind_ok, pget_co (by omega), bind_ok, pmul_right (by rw [pow64]; exact hgb _ (co_mem (by omega))), bind_ok, pset_nat (by omega), Int.sub_eq_add_neg])
        rw [e', bind_ok]
        refine ⟨_, rfl, l', by omega, ?_, fun t => ?_⟩
        · dsimp only
          rw [h4, hm, show u.length - (k + 1) = u.length - 1 - k by omega, List.drop_eq_getElem_cons hil, List.reverse_cons, ← co_get hil]
        · dsimp only
          rw [k', h5, htk, mulP_snoc, List.length_take, Nat.min_eq_left (by omega), show u.length - (k + 1) = u.length - 1 - k by omega]
          by_cases ht : u.length - 1 - k ≤ t
          · rw [if_pos ht]
            by_cases ht2 : t < u.length - 1 - k + (d + 1)
            · rw [if_pos ⟨ht, ht2⟩]; omega
            · rw [if_neg (by omega), co_out (xs := g) (by omega)]; omega
          · rw [if_neg ht, if_neg (by omega)]; omega)
    rw [rangeD_len] at l3 l4
    simp only [Nat.sub_self, List.take_zero, List.drop_zero] at l3 l4
    rw [e, bind_ok, l3, List.reverse_reverse, cut_ok, bind_ok, cutP_of hu, cutL_take, cut_ok, bind_ok]
    congr 2
    refine cutP_congr fun t => ?_
    rw [co_take, l4]
    show (if t < d then (0 : Int) + co r t else 0) = co r t
    split
    · omega
    · exact (hr t (by omega)).symm
theorem cut_mon {f : List Int} {n : Nat} (hl : f.length = n + 1) (h1 : co f n = 1) : Cut f := by
  refine .inr ⟨f.getLast (by intro z; subst z; simp at hl), f.dropLast, (List.dropLast_concat_getLast _).symm, ?_⟩
  rw [List.getLast_eq_getElem]
  have : co f (f.length - 1) = 1 := by rw [hl]; exact h1
  rw [co_get (by omega)] at this
  rw [this]; decide
/-- parted over Z -/
theorem parted_ok {f g : List Int} {n d : Nat} (hl : f.length = n + 1) (h1 : co f n = 1) (hg : g.length = d + 1) (hg1 : co g d = 1) (hgb : ∀ x ∈ g, x.natAbs < 18446744073709551616) (hn : n ≤ 100) (hd : d ≤ n) :
    ∃ u r, m_poly_parted f g = ok (u, r) ∧ u.length = n - d + 1 ∧ co u (n - d) = 1 ∧ r.length ≤ d ∧ PZ.of f = PZ.of u * PZ.of g + PZ.of r := by
  have mg : (PZ.of g).Mon d := ⟨fun t ht => co_out (by omega), hg1⟩
  have mf : (PZ.of f).Mon n := ⟨fun t ht => co_out (by omega), h1⟩
  obtain ⟨q, s, e, bs⟩ := PZ.mdiv mg (PZ.of f)
  have mq : q.Mon (n - d) := by
    have hq0 : q ≠ 0 := fun z => by
      have : PZ.of f = s := by rw [e, z]; grind
      have h1 := mf.top
      rw [this, bs n hd] at h1
      omega
    obtain ⟨l, h1, h2⟩ := PZ.deg hq0
    obtain ⟨p1, p2⟩ := PZ.mul_top h1 mg.bd
    have ef : q * PZ.of g = PZ.of f - s := by grind
    rw [ef, PZ.co_sub, mg.top, Int.mul_one] at p2
    have hlm : l + d = n := by
      apply Classical.byContradiction
      intro z
      by_cases hlt : n < l + d
      · rw [mf.bd _ (by omega), bs _ (by omega)] at p2
        omega
      · have := p1 n (by omega)
        rw [ef, PZ.co_sub, mf.top, bs n hd] at this
        omega
    rw [show n - d = l by omega]
    refine ⟨h1, ?_⟩
    rw [← p2, hlm, mf.top, bs n hd]
    rfl
  refine ⟨q.row (n - d + 1), cutP (s.row d), ?_, PZ.row_len _ _, ?_, ?_, ?_⟩
  · refine poly_parted_ok2 (d := d) (cut_mon (PZ.row_len _ _) (by rw [PZ.row_co, if_pos (by omega)]; exact mq.top)) hg hg1 (fun t ht => by rw [PZ.row_co, if_neg (by omega)]) (cut_mon hl h1) (fun t => ?_) hgb (by rw [PZ.row_len]; omega) (by omega)
    have := congrArg (fun x => PZ.co x t) e
    have e2 : (q * PZ.of g).co t = co (mulP (q.row (n - d + 1)) g) t := by
      rw [← PZ.of_row mq.bd]
      rw [PZ.of_row mq.bd]
      exact congrArg (fun x => PZ.co (x * PZ.of g) t) (PZ.of_row mq.bd).symm
    have e3 : s.co t = co (s.row d) t := by
      rw [PZ.row_co]
      by_cases ht : t < d
      · rw [if_pos ht]
      · rw [if_neg ht, bs t (by omega)]
    simp only [PZ.co_add] at this
    rw [← e2, ← e3]
    exact this
  · rw [PZ.row_co, if_pos (by omega)]; exact mq.top
  · exact Nat.le_trans (cutP_len _) (by rw [PZ.row_len]; exact Nat.le_refl _)
  · have e4 : PZ.of (cutP (s.row d)) = s := by
      rw [PZ.eq (cutP_co (s.row d)), PZ.of_row bs]
    rw [e4, PZ.of_row mq.bd]
    exact e
/-! ### a ring that was made is whole at the primes whose squares divide its measure -/
theorem parts_of_ok {f : List Int} {p : Int} {n : Nat} (h : p ∈ primesL) (hl : f.length = n + 1) (h1 : co f n = 1) (hn1 : 1 ≤ n) (hn : n ≤ 4) :
    Tot (m_parts_of f p) fun l => ∃ parts, Split p f parts ∧ m_split_by f p = ok parts ∧ l.map (fun x => (x.1, x.2.1)) = parts ∧ ∀ x ∈ l, (∃ u, m_poly_parted f x.1 = ok (u, x.2.2)) ∧ x.2.2.length ≤ x.1.length - 1 ∧ ∃ q, PZ.of f = q * PZ.of x.1 + PZ.of x.2.2 := by
  obtain ⟨p1, p2⟩ := pr_bd h
  obtain ⟨parts, es, hs⟩ := split_by_ok h hl h1 hn1 hn
  have ht := split_by_tot h (f := f) (by omega)
  obtain ⟨parts', es', hl300, hfac⟩ := ht
  rw [es] at es'
  cases es'
  unfold m_parts_of
  rw [bind_ok, bind_ret, es, bind_ok]
  refine (Tot.loopMi (fun i (l : List (List Int × Int × List Int)) => l.map (fun x => (x.1, x.2.1)) = parts.take i ∧ ∀ x ∈ l, (∃ u, m_poly_parted f x.1 = ok (u, x.2.2)) ∧ x.2.2.length ≤ x.1.length - 1 ∧ ∃ q, PZ.of f = q * PZ.of x.1 + PZ.of x.2.2) (c := ([] : List (List Int × Int × List Int))) ⟨rfl, (fun g hg => nomatch hg)⟩ fun i l x hx hl' => ?_).mono fun l hl' => ⟨parts, hs, rfl, by rw [hl'.1, List.take_length], hl'.2⟩
  have hi := (List.getElem?_eq_some_iff.mp hx).1
  obtain ⟨px, _⟩ := hs.pts x (List.mem_of_getElem? hx)
  have plen := px.len
  have hlen : l.length = i := by
    have := congrArg List.length hl'.1
    rw [List.length_map, List.length_take] at this
    omega
  simp only [bind_bind, bind_okS, bind_ret]
  have hdn : x.1.length - 1 ≤ n := by
    apply Classical.byContradiction
    intro z
    -- the factor divides f
    have hk : Dvm p (PZ.of x.1) (PZ.of f) := by
      refine Dvm.congr hs.mul.symm ?_
      have : ∀ (l : List (List Int × Int)), x ∈ l → (∀ y ∈ l, 1 ≤ y.2) → Dvm p (PZ.of x.1) (prodP l) := by
        intro l
        induction l with
        | nil => exact fun h => nomatch h
        | cons y l ih =>
          intro hm he
          show Dvm p _ (PZ.of y.1 ^ y.2.toNat * prodP l)
          rcases List.mem_cons.mp hm with rfl | hm
          · have := he x List.mem_cons_self
            obtain ⟨k, hk⟩ : ∃ k, x.2.toNat = k + 1 := ⟨x.2.toNat - 1, by omega⟩
            rw [hk, Lean.Grind.Semiring.pow_succ]
            exact ⟨PZ.of x.1 ^ k * prodP l, 0, by grind⟩
          · exact (ih hm fun y hy => he y (List.mem_cons_of_mem _ hy)).mul _
      exact this parts (List.mem_of_getElem? hx) fun y hy => (hs.pts y hy).2
    have := dvm_low px.irr.mon (show (PZ.of f).Bd (x.1.length - 1) from fun t ht => co_out (by omega)) hk n
    rw [PZ.co_of, h1] at this
    have := Int.le_of_dvd (by decide) this
    omega
  obtain ⟨u, r, e, lu, tu, lr, eq⟩ := parted_ok hl h1 (show x.1.length = x.1.length - 1 + 1 by omega) px.mp.last (fun y hy => by have := px.mp.red.mem y hy; omega) (by omega) hdn
  rw [e, bind_ok]
  refine (Tot.papp (by omega)).mono fun q hq => ?_
  rw [hq]
  refine ⟨?_, fun y hy => ?_⟩
  · rw [List.map_append, hl'.1, List.take_add_one, hx]
    rfl
  · rcases List.mem_append.mp hy with z | z
    · exact hl'.2 y z
    · rw [List.mem_singleton.mp z]
      exact ⟨⟨u, e⟩, lr, _, eq⟩
def allDv (m : Int) (row : List Int) : Bool := List.all (row.map fun p => decide (p.fmod m = 0)) id
theorem divides_all_ok {m : Int} {row : List Int} (hm : m ≠ 0) (hl : row.length ≤ 100000) : m_divides_all m row = ok (allDv m row) := by
  unfold m_divides_all
  rw [mapC_ok (g := fun p : Int => decide (p.fmod m = 0)) (fun x _ => by rw [pmod_ok hm, bind_ok]) (by rw [sizeLineE]; omega), bind_ok]
  rfl
theorem allDv_iff {m : Int} {row : List Int} : allDv m row = true ↔ (PZ.of row).Dvp m := by
  unfold allDv
  rw [List.all_eq_true]
  constructor
  · intro h t
    show m ∣ co row t
    by_cases ht : t < row.length
    · have := h (decide ((co row t).fmod m = 0)) (List.mem_map.mpr ⟨_, co_mem ht, rfl⟩)
      exact Int.dvd_of_fmod_eq_zero (by simpa using this)
    · rw [co_out (by omega)]; exact Int.dvd_zero m
  · intro h z hz
    obtain ⟨x, hx, rfl⟩ := List.mem_map.mp hz
    obtain ⟨i, hi⟩ := List.getElem?_of_mem hx
    have := h i
    rw [PZ.co_of, co_some hi] at this
    simpa using Int.fmod_eq_zero_of_dvd this
theorem square_primes_ok (size : Int) : ∃ l, m_square_primes size = ok l ∧ ∀ p, p ∈ l ↔ p ∈ primesL ∧ p * p ∣ size := by
  unfold m_square_primes
  rw [show m_small_primes = ok primesL from rfl, bind_ok]
  refine ⟨_, compL_ok (p := fun p => decide (size.fmod (p * p) = 0)) (g := fun p => p) (fun p hp => ?_) (fun _ _ _ => rfl) (by rw [sizeLineE]; decide), fun p => ?_⟩
  · obtain ⟨p1, p2⟩ := pr_bd hp
    have hne : p * p ≠ 0 := by
      intro z
      rcases Int.mul_eq_zero.mp z with z | z <;> omega
    simp only [bind_bind]
    rw [pmul_left (by rw [pow64]; omega), bind_ok, pmod_ok hne, bind_ok]
  · rw [List.map_id', List.mem_filter, decide_eq_true_iff]
    constructor
    · exact fun ⟨a, b⟩ => ⟨a, Int.dvd_of_fmod_eq_zero b⟩
    · exact fun ⟨a, b⟩ => ⟨a, Int.fmod_eq_zero_of_dvd b⟩
theorem outside_ok {f : List Int} {n : Nat} (hl : f.length = n + 1) (h1 : co f n = 1) (hn1 : 1 ≤ n) (hn : n ≤ 4) (size : Int) :
    Tot (m_outside f size) fun o => o = none → ∀ p ∈ primesL, p * p ∣ size → ∃ l, m_parts_of f p = ok l ∧ ∀ x ∈ l, 2 ≤ x.2.1 → ¬ (PZ.of x.2.2).Dvp (p * p) := by
  obtain ⟨sp, es, hsp⟩ := square_primes_ok size
  unfold m_outside
  rw [es, bind_ok]
  have L := Tot.loopFall (ρ := Option (Int × List Int)) (xs := sp) (f := fun (s3 : Unit) p4 => (sq (ρ := (Option (Int × (List Int)))) (M.bind (m_parts_of f p4) fun xs => loopF (fun (s5 : Unit) x6 => (M.bind (M.bind (ok (decide (2 ≤ x6.2.1))) fun z8 => if z8 = true then (M.bind (pmul p4 p4) fun u7 => (m_divides_all u7 x6.2.2)) else ok false) fun z9 => if z9 = true then (M.bind (M.bind (M.bind (m_poly_parted f x6.1) fun u11 => ok u11.1) fun xs => mapC (fun place12 => (pmod place12 p4)) xs) fun row10 => (M.bind (whileM (fun (row13 : (List Int)) => (ok (decide ((List.length row13 : Int) < ((List.length f : Int) - 1))))) (fun (row13 : (List Int)) => (M.bind (papp row13 0) fun row14 => ok (row14))) (row10)) fun row15 => (M.bind (ok (some (p4, row15))) fun a16 => ok (Fl.rt a16)))) else ok (Fl.nx ()))) () xs) (fun s17 => ok (Fl.nx ())) (fun a => Fl.rt a)))
    (fun p => ∃ l, m_parts_of f p = ok l ∧ ∀ x ∈ l, 2 ≤ x.2.1 → ¬ (PZ.of x.2.2).Dvp (p * p)) (fun o => o.isSome = true) fun p hp => ?_
  · obtain ⟨r, er, hr⟩ := L
    rw [sq_of er]
    rcases hr with ⟨rfl, hN⟩ | ⟨a, rfl, ha⟩
    · show Tot (ok none) _
      exact .ok fun _ p hp hd => hN p ((hsp p).mpr ⟨hp, hd⟩)
    · show Tot (ok a) _
      refine .ok fun z => ?_
      rw [z] at ha
      cases ha
  · obtain ⟨hp, hpd⟩ := (hsp p).mp hp
    obtain ⟨p1, p2⟩ := pr_bd hp
    have hne : p * p ≠ 0 := by
      intro z
      rcases Int.mul_eq_zero.mp z with z | z <;> omega
    obtain ⟨l, el, parts, hs, _, hm, hx⟩ := parts_of_ok hp hl h1 hn1 hn
    have L2 := Tot.loopFall (ρ := Option (Int × List Int)) (xs := l) (f := fun (s5 : Unit) x6 => (M.bind (M.bind (ok (decide (2 ≤ x6.2.1))) fun z8 => if z8 = true then (M.bind (pmul p p) fun u7 => (m_divides_all u7 x6.2.2)) else ok false) fun z9 => if z9 = true then (M.bind (M.bind (M.bind (m_poly_parted f x6.1) fun u11 => ok u11.1) fun xs => mapC (fun place12 => (pmod place12 p)) xs) fun row10 => (M.bind (whileM (fun (row13 : (List Int)) => (ok (decide ((List.length row13 : Int) < ((List.length f : Int) - 1))))) (fun (row13 : (List Int)) => (M.bind (papp row13 0) fun row14 => ok (row14))) (row10)) fun row15 => (M.bind (ok (some (p, row15))) fun a16 => ok (Fl.rt a16)))) else ok (Fl.nx ())))
      (fun x => 2 ≤ x.2.1 → ¬ (PZ.of x.2.2).Dvp (p * p)) (fun o => o.isSome = true) fun x hxl => ?_
    · obtain ⟨r, er, hr⟩ := L2
      have e2 : (M.bind (m_parts_of f p) fun xs => loopF (fun (s5 : Unit) x6 => (M.bind (M.bind (ok (decide (2 ≤ x6.2.1))) fun z8 => if z8 = true then (M.bind (pmul p p) fun u7 => (m_divides_all u7 x6.2.2)) else ok false) fun z9 => if z9 = true then (M.bind (M.bind (M.bind (m_poly_parted f x6.1) fun u11 => ok u11.1) fun xs => mapC (fun place12 => (pmod place12 p)) xs) fun row10 => (M.bind (whileM (fun (row13 : (List Int)) => (ok (decide ((List.length row13 : Int) < ((List.length f : Int) - 1))))) (fun (row13 : (List Int)) => (M.bind (papp row13 0) fun row14 => ok (row14))) (row10)) fun row15 => (M.bind (ok (some (p, row15))) fun a16 => ok (Fl.rt a16)))) else ok (Fl.nx ()))) () xs) = ok r := by rw [el, bind_ok]; exact er
      rw [sq_of e2]
      rcases hr with ⟨rfl, hN⟩ | ⟨a, rfl, ha⟩
      · exact .ok (.inl ⟨rfl, l, el, hN⟩)
      · exact .ok (.inr ⟨a, rfl, ha⟩)
    · obtain ⟨⟨u, ep⟩, lr, q, eq⟩ := hx x hxl
      have hxp : (x.1, x.2.1) ∈ parts := by rw [← hm]; exact List.mem_map.mpr ⟨x, hxl, rfl⟩
      have plen := (hs.pts _ hxp).1.le
      dsimp only at plen
      by_cases h2 : 2 ≤ x.2.1
      · rw [bind_ok, decide_eq_true h2, if_pos rfl, pmul_left (by rw [pow64]; omega), bind_ok, divides_all_ok hne (by omega), bind_ok]
        by_cases hd : allDv (p * p) x.2.2 = true
        · rw [if_pos hd, ep, bind_ok, bind_ok]
          have ul : u.length ≤ 100000 := by
            have ht := poly_parted_tot (f := f) (g := x.1) (d := x.1.length - 1) (by have := (hs.pts _ hxp).1.len; dsimp only at this; omega) (fun y hy => by have := (hs.pts _ hxp).1.mp.red.mem y hy; omega) (by omega) (by omega)
            obtain ⟨r, er, h1, _⟩ := ht
            rw [ep] at er
            cases er
            dsimp only at h1
            omega
          refine .bind (P := fun l : List Int => l.length ≤ 100000) ((Tot.mapC (P := fun _ => True) (fun y _ => (Tot.pmod (by omega)).mono fun _ _ => trivial) (by show u.length ≤ _; omega)).mono fun l hl' => by rw [hl'.1]; exact ul) fun row hrow => ?_
          refine .bind (P := fun _ => True) ((Tot.whileM (fun l : List Int => l.length ≤ 100005) (fun l => 5 - l.length) (by show row.length ≤ 100005; omega) fun c hc => .ok fun hz => ?_).mono fun _ _ => trivial) fun r _ => ?_
          · have hz := of_decide_eq_true hz
            refine .bind (.papp (by omega)) fun q hq => .ok ⟨?_, ?_⟩
            · rw [hq, List.length_append]; simp only [List.length_cons, List.length_nil]; omega
            · rw [hq, List.length_append]; simp only [List.length_cons, List.length_nil]; omega
          · rw [bind_ok]
            exact .ok (.inr ⟨_, rfl, rfl⟩)
        · rw [if_neg hd]
          exact .ok (.inl ⟨rfl, fun _ z => hd (allDv_iff.mpr z)⟩)
      · rw [bind_ok, decide_eq_false h2, if_neg (by decide), bind_ok, if_neg (by decide)]
        exact .ok (.inl ⟨rfl, fun z => absurd z h2⟩)
end T
set_option maxRecDepth 100000
set_option maxHeartbeats 4000000
namespace T
open PySem PySem.Spec PyProof.Rows L2
/-! ### the measure, and double factors with a rest that p p divides -/
def dc3 (a b c : Int) : Int := c * c * b * b - 4 * b * b * b - 4 * c * c * c * a - 27 * a * a + 18 * c * b * a
def dc4 (a b c d : Int) : Int := 256 * a * a * a - 192 * d * b * a * a - 128 * c * c * a * a + 144 * c * b * b * a - 27 * b * b * b * b + 144 * d * d * c * a * a - 6 * d * d * b * b * a - 80 * d * c * c * b * a + 18 * d * c * b * b * b + 16 * c * c * c * c * a - 4 * c * c * c * b * b - 27 * d * d * d * d * a * a + 18 * d * d * d * c * b * a - 4 * d * d * d * b * b * b - 4 * d * d * c * c * c * a + d * d * c * c * b * b
theorem meas4' {a b c d : Int} (ha : a.natAbs ≤ 499) (hb : b.natAbs ≤ 499) (hc : c.natAbs ≤ 499) (hd : d.natAbs ≤ 499) : m_measure [a, b, c, d, 1] = ok (dc4 a b c d) := by
  rw [meas4 ha hb hc hd]
  congr 1
  have : ∀ x y : Int, x = 27 * y → x / 27 = y := fun x y h => by omega
  apply this
  unfold dc4
  grind
theorem zq_natR (p : Int) (k : Nat) : zq p (k : Int) = (Zq.rd p).nat k := by
  induction k with
  | zero => rfl
  | succ k ih =>
    rw [RD.nat_succ, ← ih]
    exact congrArg (zq p) (show ((k + 1 : Nat) : Int) = (k : Int) + 1 by omega)
theorem zq_4 (p : Int) : zq p 4 = 4 := zq_natR p 4
theorem zq_6 (p : Int) : zq p 6 = 6 := zq_natR p 6
theorem zq_16 (p : Int) : zq p 16 = 16 := zq_natR p 16
theorem zq_18 (p : Int) : zq p 18 = 18 := zq_natR p 18
theorem zq_27 (p : Int) : zq p 27 = 27 := zq_natR p 27
theorem zq_80 (p : Int) : zq p 80 = 80 := zq_natR p 80
theorem zq_128 (p : Int) : zq p 128 = 128 := zq_natR p 128
theorem zq_144 (p : Int) : zq p 144 = 144 := zq_natR p 144
theorem zq_192 (p : Int) : zq p 192 = 192 := zq_natR p 192
theorem zq_256 (p : Int) : zq p 256 = 256 := zq_natR p 256
theorem zq_2 (p : Int) : zq p 2 = 2 := zq_natR p 2
theorem zq_dvd {p x : Int} : p ∣ x ↔ zq p x = 0 := by
  rw [← zq_0, ← zq_iff]
  exact ⟨fun ⟨k, h⟩ => ⟨k, by omega⟩, fun ⟨k, h⟩ => ⟨k, by omega⟩⟩
/-- one double root -/
theorem dc2_lin {p g T S a b : Int} (h0 : a = g * g + T * g + S) (h1 : b = 2 * g + T) (hT : p ∣ T) (hS : p * p ∣ S) : p * p ∣ b * b - 4 * a := by
  obtain ⟨t, rfl⟩ := hT
  obtain ⟨s, rfl⟩ := hS
  exact ⟨t * t - 4 * s, by grind⟩
theorem dc3_lin {p g u T S a b c : Int} (h0 : a = g * g * u + T * g + S) (h1 : b = 2 * g * u + g * g + T) (h2 : c = u + 2 * g) (hT : p ∣ T) (hS : p * p ∣ S) : p * p ∣ dc3 a b c := by
  have hTT : zq (p * p) T * zq (p * p) T = 0 := by
    rw [← zq_mul, ← zq_dvd]
    obtain ⟨t, rfl⟩ := hT
    exact ⟨t * t, by grind⟩
  have hS0 := zq_dvd.mp hS
  rw [zq_dvd]
  subst h0 h1 h2
  unfold dc3
  simp only [zq_sub, zq_add, zq_mul, zq_4, zq_18, zq_27, zq_2]
  generalize zq (p * p) T = t at *
  generalize zq (p * p) S = s at *
  generalize zq (p * p) g = g at *
  generalize zq (p * p) u = u at *
  subst hS0
  grind
theorem dc4_lin {p g u v T S a b c d : Int} (h0 : a = g * g * v + T * g + S) (h1 : b = 2 * g * v + g * g * u + T) (h2 : c = v + 2 * g * u + g * g) (h3 : d = u + 2 * g) (hT : p ∣ T) (hS : p * p ∣ S) : p * p ∣ dc4 a b c d := by
  have hTT : zq (p * p) T * zq (p * p) T = 0 := by
    rw [← zq_mul, ← zq_dvd]
    obtain ⟨t, rfl⟩ := hT
    exact ⟨t * t, by grind⟩
  have hS0 := zq_dvd.mp hS
  rw [zq_dvd]
  subst h0 h1 h2 h3
  unfold dc4
  simp only [zq_sub, zq_add, zq_mul, zq_4, zq_18, zq_27, zq_2, zq_256, zq_192, zq_128, zq_144, zq_6, zq_80, zq_16]
  generalize zq (p * p) T = t at *
  generalize zq (p * p) S = s at *
  generalize zq (p * p) g = g at *
  generalize zq (p * p) u = u at *
  generalize zq (p * p) v = v at *
  subst hS0
  grind
/-- a double quadratic -/
theorem dc4_quad {p g h U V S R a b c d : Int} (h0 : a = g * g + U * g + S) (h1 : b = 2 * g * h + U * h + V * g + R) (h2 : c = 2 * g + h * h + U + V * h) (h3 : d = 2 * h + V) (hU : p ∣ U) (hV : p ∣ V) (hS : p * p ∣ S) (hR : p * p ∣ R) : p * p ∣ dc4 a b c d := by
  have hUU : zq (p * p) U * zq (p * p) U = 0 := by
    rw [← zq_mul, ← zq_dvd]
    obtain ⟨t, rfl⟩ := hU
    exact ⟨t * t, by grind⟩
  have hUV : zq (p * p) U * zq (p * p) V = 0 := by
    rw [← zq_mul, ← zq_dvd]
    obtain ⟨t, rfl⟩ := hU
    obtain ⟨s, rfl⟩ := hV
    exact ⟨t * s, by grind⟩
  have hVV : zq (p * p) V * zq (p * p) V = 0 := by
    rw [← zq_mul, ← zq_dvd]
    obtain ⟨t, rfl⟩ := hV
    exact ⟨t * t, by grind⟩
  have hS0 := zq_dvd.mp hS
  have hR0 := zq_dvd.mp hR
  rw [zq_dvd]
  subst h0 h1 h2 h3
  unfold dc4
  simp only [zq_sub, zq_add, zq_mul, zq_4, zq_18, zq_27, zq_2, zq_256, zq_192, zq_128, zq_144, zq_6, zq_80, zq_16]
  generalize zq (p * p) U = U at *
  generalize zq (p * p) V = V at *
  generalize zq (p * p) S = S at *
  generalize zq (p * p) R = R at *
  generalize zq (p * p) g = g at *
  generalize zq (p * p) h = h at *
  subst hS0 hR0
  grind
end T
set_option maxRecDepth 100000
set_option maxHeartbeats 4000000
namespace T
open PySem PySem.Spec PyProof.Rows L2
theorem pt_eq {p : Int} {g h : List Int} (hp : InvP p) (hg : Pt p g) (hh : Pt p h) (d : Dvm p (PZ.of g) (PZ.of h)) : g = h := by
  obtain ⟨e1, e2⟩ := hg.irr.eq_of hp hh.irr d
  have := hg.len
  have := hh.len
  exact co_ext (by omega) fun t => Red.eq hg.mp.red hh.mp.red (Eqp.cg.mp e2) t
theorem Split.apart {p : Int} {f : List Int} {l : List (List Int × Int)} (hs : Split p f l) : l.Pairwise fun x y => x.1 ≠ y.1 := by
  obtain ⟨lins, rest, rfl, hl, hr⟩ := hs.ord
  rw [List.pairwise_append]
  refine ⟨hl.up.imp fun {a b} h e => by rw [e] at h; omega, ?_, fun a ha b hb e => ?_⟩
  · rcases hr with rfl | ⟨g, e, rfl, _⟩ | ⟨g, k, rfl, _, _, h, _⟩
    · exact List.Pairwise.nil
    · exact List.pairwise_singleton _ _
    · exact List.pairwise_pair.mpr h
  · obtain ⟨low, e1, rfl, _⟩ := hl.mem a ha
    have hb3 : 3 ≤ b.1.length := by
      rcases hr with rfl | ⟨g, e, rfl, h3, _⟩ | ⟨g, k, rfl, h3, h4, _, _⟩
      · exact nomatch hb
      · rw [List.mem_singleton.mp hb]; exact h3
      · simp only [List.mem_cons, List.not_mem_nil, or_false] at hb
        rcases hb with rfl | rfl
        · show 3 ≤ g.length; omega
        · show 3 ≤ k.length; omega
    rw [← e] at hb3
    simp at hb3
theorem prodP_foldr : ∀ l : List (List Int × Int), prodP l = (l.map fun x => (PZ.of x.1, x.1.length - 1, x.2.toNat)).foldr (fun x b => x.1 ^ x.2.2 * b) 1
  | [] => rfl
  | x :: l => by
    show PZ.of x.1 ^ x.2.toNat * prodP l = PZ.of x.1 ^ x.2.toNat * _
    rw [prodP_foldr l]
theorem prodP_mem {l : List (List Int × Int)} {x : List Int × Int} (hx : x ∈ l) : ∃ k : PZ, prodP l = PZ.of x.1 ^ x.2.toNat * k := by
  induction l with
  | nil => exact nomatch hx
  | cons y l ih =>
    rcases List.mem_cons.mp hx with rfl | hx
    · exact ⟨_, rfl⟩
    · obtain ⟨k, e⟩ := ih hx
      exact ⟨PZ.of y.1 ^ y.2.toNat * k, by show PZ.of y.1 ^ y.2.toNat * prodP l = _; rw [e]; grind⟩
theorem len1 {α : Type} {xs : List α} (h : xs.length = 1) : ∃ a, xs = [a] := by
  match xs, h with
  | [a], _ => exact ⟨a, rfl⟩
theorem of_short1 {r : List Int} (h : r.length ≤ 1) : PZ.of r = PZ.of [co r 0] := PZ.ext fun t => by
  cases t with
  | zero => rfl
  | succ t => show co r (t + 1) = _; rw [co_out (by omega)]; rfl
theorem of_short2 {r : List Int} (h : r.length ≤ 2) : PZ.of r = PZ.of [co r 0, co r 1] := PZ.ext fun t => by
  match t with
  | 0 => rfl
  | 1 => rfl
  | t + 2 => show co r (t + 2) = _; rw [co_out (by omega)]; rfl
/-- a double factor whose rest p p divides makes p p divide the measure -/
theorem double_size {f g u r : List Int} {n m : Nat} {p size : Int} (hg : Gd f) (hl : f.length = n + 1) (hp : InvP p) (hpg : Pt p g) (hm : g.length = m + 1) (hu : PZ.of f = PZ.of u * PZ.of g + PZ.of r) (lu : u.length = n - m + 1) (tu : co u (n - m) = 1) (lr : r.length ≤ m) (hr : (PZ.of r).Dvp (p * p))
    (hd : Dvm p (PZ.of g ^ 2) (PZ.of f)) (hme : m_measure f = ok size) (p2 : p < 200) : p * p ∣ size := by
  have hp1 := hp.pr.1
  have m1 := hpg.irr.pos
  have mg : (PZ.of g).Mon m := hpg.mp.mon hm
  have hn4 := hg.len
  have gl : co g m = 1 := mg.top
  have rp : (PZ.of r).Dvp p := fun t => by
    obtain ⟨k, hk⟩ := hr t
    exact ⟨p * k, by rw [hk]; grind⟩
  -- u is g k modulo p
  obtain ⟨K, c, hK⟩ := hd
  have huk : Eqp p (PZ.of u) (PZ.of g * K) := by
    rw [Eqp.iff]
    obtain ⟨c2, hc2⟩ := PZ.dvp_iff.mp rp
    have hz : ((PZ.of u - PZ.of g * K) * PZ.of g).Dvp p := PZ.dvp_iff.mpr ⟨c - c2, by
      have : PZ.of g ^ 2 = PZ.of g * PZ.of g := by grind
      rw [this] at hK
      grind⟩
    rcases PZ.dvp_mul hp.pr hz with z | z
    · exact z
    · have := z m
      rw [mg.top] at this
      have := Int.le_of_dvd (by decide) this
      omega
  have hgu : Dvm p (PZ.of g) (PZ.of u) := Dvm.congr huk.symm Dvm.left
  have mu : (PZ.of u).Mon (n - m) := ⟨fun t ht => co_out (by omega), tu⟩
  have h2m : 2 * m ≤ n := by
    apply Classical.byContradiction
    intro z
    have := dvm_low mg (mu.bd.mono (by omega)) hgu (n - m)
    rw [mu.top] at this
    have := Int.le_of_dvd (by decide) this
    omega
  by_cases hm1 : m = 1
  · subst hm1
    obtain ⟨k1, t0, e0, lk, tk, lt, ek⟩ := parted_ok (f := u) (g := g) (n := n - 1) (d := 1) lu tu hm gl (fun y hy => by have := hpg.mp.red.mem y hy; omega) (by omega) (by omega)
    have ht0 : p ∣ co t0 0 := by
      have h1 : Dvm p (PZ.of g) (PZ.of t0) := by
        have : PZ.of t0 = PZ.of u - PZ.of k1 * PZ.of g := by grind
        rw [this]
        exact hgu.sub Dvm.right
      exact dvm_low mg (fun t ht => by rw [PZ.co_of, co_out (by omega)]) h1 0
    have hr0 : p * p ∣ co r 0 := hr 0
    rw [ek, of_short1 lr, of_short1 lt] at hu
    generalize co r 0 = S at hu hr0
    generalize co t0 0 = T at hu ht0
    obtain ⟨g0, g1, rfl⟩ := len2 hm
    have : g1 = 1 := gl
    subst this
    have hco : ∀ t, co f t = co (addP (mulP (addP (mulP k1 [g0, 1]) [T]) [g0, 1]) [S]) t := fun t => congrArg (fun x => PZ.co x t) hu
    rcases hg.cases with ⟨a, b, rfl, ha, hb⟩ | ⟨a, b, c, rfl, ha, hb, hc⟩ | ⟨a, b, c, d, rfl, ha, hb, hc, hd'⟩
    · have hn : n = 2 := by simpa using hl.symm
      subst hn
      obtain ⟨k0, rfl⟩ := len1 lk
      have : k0 = 1 := tk
      subst this
      rw [meas2 ha hb] at hme
      cases hme
      have c0 := hco 0
      have c1 := hco 1
      simp [mulP, addP, scaleP, co] at c0 c1
      exact dc2_lin (g := g0) (T := T) (S := S) (by grind) (by grind) ht0 hr0
    · have hn : n = 3 := by simpa using hl.symm
      subst hn
      obtain ⟨k0, k2, rfl⟩ := len2 lk
      have : k2 = 1 := tk
      subst this
      rw [meas3 ha hb hc] at hme
      cases hme
      have c0 := hco 0
      have c1 := hco 1
      have c2 := hco 2
      simp [mulP, addP, scaleP, co] at c0 c1 c2
      exact dc3_lin (g := g0) (u := k0) (T := T) (S := S) (by grind) (by grind) (by grind) ht0 hr0
    · have hn : n = 4 := by simpa using hl.symm
      subst hn
      obtain ⟨k0, k2, k3, rfl⟩ := len3 lk
      have : k3 = 1 := tk
      subst this
      rw [meas4' ha hb hc hd'] at hme
      cases hme
      have c0 := hco 0
      have c1 := hco 1
      have c2 := hco 2
      have c3 := hco 3
      simp [mulP, addP, scaleP, co] at c0 c1 c2 c3
      exact dc4_lin (g := g0) (u := k2) (v := k0) (T := T) (S := S) (by grind) (by grind) (by grind) (by grind) ht0 hr0
  · have hm2 : m = 2 := by omega
    have hn : n = 4 := by omega
    subst hm2; subst hn
    obtain ⟨g0, g1, g2, rfl⟩ := len3 hm
    have : g2 = 1 := gl
    subst this
    obtain ⟨u0, u1, u2, rfl⟩ := len3 lu
    have : u2 = 1 := tu
    subst this
    have hug := mon_dvm mg mu hgu hp1
    have hU : p ∣ u0 - g0 := by
      have := Eqp.iff.mp hug.symm 0
      rwa [PZ.co_sub] at this
    have hV : p ∣ u1 - g1 := by
      have := Eqp.iff.mp hug.symm 1
      rwa [PZ.co_sub] at this
    have hr0 : p * p ∣ co r 0 := hr 0
    have hr1 : p * p ∣ co r 1 := hr 1
    rw [of_short2 lr] at hu
    generalize co r 0 = S at hu hr0
    generalize co r 1 = R at hu hr1
    have hco : ∀ t, co f t = co (addP (mulP [u0, u1, 1] [g0, g1, 1]) [S, R]) t := fun t => congrArg (fun x => PZ.co x t) hu
    rcases hg.cases with ⟨a, b, rfl, ha, hb⟩ | ⟨a, b, c, rfl, ha, hb, hc⟩ | ⟨a, b, c, d, rfl, ha, hb, hc, hd'⟩
    · simp at hl
    · simp at hl
    · rw [meas4' ha hb hc hd'] at hme
      cases hme
      have c0 := hco 0
      have c1 := hco 1
      have c2 := hco 2
      have c3 := hco 3
      simp [mulP, addP, scaleP, co] at c0 c1 c2 c3
      exact dc4_quad (g := g0) (h := g1) (U := u0 - g0) (V := u1 - g1) (S := S) (R := R) (by grind) (by grind) (by grind) (by grind) hU hV hr0 hr1
theorem whole_of {r : Rg} (hr : RgG r) {F : NF} {n : Nat} (hF : NfOf F r.1 n) (hl : r.1.length = n + 1) (h1 : co r.1 n = 1) (h2 : 2 ≤ n) (h4 : n ≤ 4) {p : Int} (h : p ∈ primesL) : WholeAt F p := by
  obtain ⟨p1, p2⟩ := pr_bd h
  have hp := invP_of h
  obtain ⟨_, _, _, hme, hout⟩ := ring_inv hr.made
  obtain ⟨parts, es, hs⟩ := split_by_ok h hl h1 (by omega) h4
  obtain ⟨o, eo, ho⟩ := outside_ok hl h1 (by omega) h4 r.2.2
  rw [hout] at eo
  cases eo
  refine ⟨hp, parts.map fun x => (PZ.of x.1, x.1.length - 1, x.2.toNat), fun y hy => ?_, ?_, ?_⟩
  · obtain ⟨x, hx, rfl⟩ := List.mem_map.mp hy
    obtain ⟨px, e1⟩ := hs.pts x hx
    refine ⟨px.irr, by show 1 ≤ x.2.toNat; omega, fun h2e => ?_⟩
    have h2e : 2 ≤ x.2.toNat := h2e
    have plen := px.len
    obtain ⟨k, hk⟩ := prodP_mem hx
    have hdv : Dvm p (PZ.of x.1 ^ 2) (PZ.of r.1) := by
      refine Dvm.congr hs.mul.symm ?_
      rw [hk]
      obtain ⟨j, hj⟩ : ∃ j, x.2.toNat = j + 2 := ⟨x.2.toNat - 2, by omega⟩
      rw [hj, Lean.Grind.Semiring.pow_succ, Lean.Grind.Semiring.pow_succ]
      exact ⟨PZ.of x.1 ^ j * k, 0, by grind⟩
    have mx := px.irr.mon
    have hdn : x.1.length - 1 ≤ n := by
      apply Classical.byContradiction
      intro z
      have hd1 : Dvm p (PZ.of x.1) (PZ.of r.1) := Dvm.trans ⟨PZ.of x.1, 0, by grind⟩ hdv
      have := dvm_low mx (show (PZ.of r.1).Bd (x.1.length - 1) from fun t ht => co_out (by omega)) hd1 n
      rw [PZ.co_of, h1] at this
      have := Int.le_of_dvd (by decide) this
      omega
    obtain ⟨u, rr, e, lu, tu, lr, eq⟩ := parted_ok hl h1 (show x.1.length = x.1.length - 1 + 1 by omega) px.mp.last (fun y hy => by have := px.mp.red.mem y hy; omega) (by omega) hdn
    refine ⟨PZ.of u, PZ.of rr, by rw [← hF.f]; exact eq, fun t ht => co_out (by show rr.length ≤ t; have : x.1.length - 1 ≤ t := ht; omega), fun hz => ?_⟩
    have hsz := double_size hr.rok.gd hl hp px (show x.1.length = x.1.length - 1 + 1 by omega) eq lu tu lr hz hdv hme p2
    obtain ⟨l, el, hN⟩ := ho rfl p h hsz
    obtain ⟨l', el', parts', hs', es', hm, hx'⟩ := parts_of_ok h hl h1 (by omega) h4
    rw [el] at el'
    cases el'
    rw [es] at es'
    cases es'
    rw [← hm] at hx
    obtain ⟨w, hw, rfl⟩ := List.mem_map.mp hx
    obtain ⟨⟨u', ep⟩, _, _⟩ := hx' w hw
    dsimp only at e
    rw [ep] at e
    cases e
    refine hN w hw ?_ hz
    have h2e : 2 ≤ w.2.1.toNat := h2e
    omega
  · rw [List.pairwise_map]
    refine (List.Pairwise.and_mem.mp hs.apart).imp fun {x y} h d => ?_
    exact h.2.2 (pt_eq hp (hs.pts x h.1).1 (hs.pts y h.2.1).1 d)
  · rw [← prodP_foldr, ← hF.f]
    exact hs.mul
end T
set_option maxRecDepth 100000
set_option maxHeartbeats 4000000
namespace T
open PySem PySem.Spec PyProof.Rows L2
/-! ### numbers whose quotients are whole -/
section
variable {F : NF} {f x : List Int} {n : Nat} {A : List (List Int)}
theorem hv_len (c : Nat → Int) (hn : 1 ≤ n) : ∀ j, (hv n A c j).length = n
  | 0 => by show (firstE n).length = n; unfold firstE; simp; omega
  | j + 1 => by
    show (add0 (rowMul n (hv n A c j) A) (c (j + 1))).length = n
    unfold add0
    rw [List.length_cons, List.length_drop, rowMul_len]
    omega
theorem shift_scale (k : Nat) (m : Int) (y : List Int) (t : Nat) : co (shiftP k (y.map (m * ·))) t = m * co (shiftP k y) t := by
  unfold shiftP
  by_cases h : t < k
  · rw [co_append_l (by simpa using h), co_append_l (by simpa using h), co_rep0]; omega
  · rw [co_append_r (by simpa using h), co_append_r (by simpa using h)]
    exact scaleP_co m y _
theorem IsTab.scale {y : List Int} {B : List (List Int)} (m : Int) (hB : IsTab f y n B) : IsTab f (y.map (m * ·)) n (B.map fun r => r.map (m * ·)) := by
  refine ⟨by rw [List.length_map]; exact hB.1, fun k r hk => ?_⟩
  rw [List.getElem?_map] at hk
  cases e : B[k]? with
  | none => rw [e] at hk; cases hk
  | some s =>
    rw [e] at hk
    obtain rfl : _ = r := Option.some.inj hk
    obtain ⟨l, c⟩ := hB.2 k s e
    refine ⟨by rw [List.length_map]; exact l, ?_⟩
    refine ((Cf.of fun t => (rfl : co (s.map (m * ·)) t = co (scaleP m s) t)).trans (c.scale m)).trans (.of fun t => ?_)
    rw [scaleP_co, shift_scale]
end
theorem small_primes : (List.range 200).all (fun k => decide (k < 2) || primesL.contains (k : Int) || (List.range k).any fun a => decide (1 < a) && k % a == 0) = true := by decide +kernel
theorem prI_small {p : Int} (h : PrI p) (h2 : p < 200) : p ∈ primesL := by
  obtain ⟨k, rfl⟩ := Int.eq_ofNat_of_zero_le (show 0 ≤ p by have := h.1; omega)
  have h1 := h.1
  have := List.all_eq_true.mp small_primes k (List.mem_range.mpr (by omega))
  simp only [Bool.or_eq_true, decide_eq_true_eq, List.any_eq_true, Bool.and_eq_true, beq_iff_eq] at this
  rcases this with (z | z) | ⟨a, ha, h3, h4⟩
  · omega
  · simpa using z
  · exfalso
    have hak := List.mem_range.mp ha
    obtain ⟨b, hb⟩ := Nat.dvd_of_mod_eq_zero h4
    have hb1 : b < k := by
      rw [hb]
      have hb0 : 0 < b := by
        apply Nat.pos_of_ne_zero
        intro z
        rw [z, Nat.mul_zero] at hb
        omega
      have : 2 * b ≤ a * b := Nat.mul_le_mul_right b h3
      omega
    have hb0 : 0 < b := by
      apply Nat.pos_of_ne_zero
      intro z
      rw [z, Nat.mul_zero] at hb
      omega
    rcases h.2 (a : Int) (b : Int) ⟨1, by rw [hb]; simp⟩ with z | z
    · have := Int.le_of_dvd (by omega) z; omega
    · have := Int.le_of_dvd (by omega) z; omega
end T
set_option maxRecDepth 100000
set_option maxHeartbeats 4000000
namespace T
open PySem PySem.Spec PyProof.Rows L2
/-! ### the own polynomial by minors, and whether a quotient is whole by it -/
end T
set_option maxRecDepth 100000
set_option maxHeartbeats 4000000
namespace T
open PySem PySem.Spec PyProof.Rows L2
/-! ### the law's word that a polynomial stays modulo p -/
end T
set_option maxRecDepth 100000
set_option maxHeartbeats 4000000
namespace T
open PySem PySem.Spec PyProof.Rows L2
/-! ### the order of data -/
section
variable {α β : Type} [DecidableEq α] [DecidableEq β] {A : Dt α} {B : Dt β}
theorem ltE_int (x y : Int) : ltE eInt x y = decide (x < y) := PySem.W.dataLt_int x y
theorem all_lt {e : Enc A} (l : Al e) {x y : α} {xs ys : List PyData} : PyProof.Rows.lexLt PyProof.Rows.itemOrd (PySem.W.keyToksAll (e.toD x :: xs)) (PySem.W.keyToksAll (e.toD y :: ys)) = if x = y then PyProof.Rows.lexLt PyProof.Rows.itemOrd (PySem.W.keyToksAll xs) (PySem.W.keyToksAll ys) else ltE e x y := by
  by_cases h : x = y
  · rw [if_pos h]
    exact PySem.W.dataLt_all_yes (l.al x y) (by rw [e.eqv, decide_eq_true h])
  · rw [if_neg h]
    exact PySem.W.dataLt_all_no (l.al x y) (by rw [e.eqv, decide_eq_false h])
theorem ltE_cons {e : Enc A} (l : Al e) (x y : α) (xs ys : List α) : ltE (eRow e) (x :: xs) (y :: ys) = if x = y then ltE (eRow e) xs ys else ltE e x y := by
  unfold ltE
  show PySem.W.dataLt (.tuple (e.toD x :: xs.map e.toD)) (.tuple (e.toD y :: ys.map e.toD)) = _
  rw [PySem.W.dataLt_tuple, all_lt l]
  by_cases h : x = y
  · rw [if_pos h, if_pos h]
    exact (PySem.W.dataLt_tuple _ _).symm
  · rw [if_neg h, if_neg h]; rfl
end
end T
set_option maxRecDepth 100000
set_option maxHeartbeats 4000000
namespace T
open PySem PySem.Spec PyProof.Rows L2
/-! ### lattices in the ring of a polynomial -/
section
variable {F : NF}
structure IsSub (S : F.R → Prop) : Prop where
  zero : S 0
  sub : ∀ {x y}, S x → S y → S (x - y)
theorem IsSub.neg {S : F.R → Prop} (h : IsSub S) {x : F.R} (hx : S x) : S (-x) := by
  have := h.sub h.zero hx
  rwa [show (0 : F.R) - x = -x by grind] at this
theorem IsSub.add {S : F.R → Prop} (h : IsSub S) {x y : F.R} (hx : S x) (hy : S y) : S (x + y) := by
  have := h.sub hx (h.neg hy)
  rwa [show x - -y = x + y by grind] at this
theorem IsSub.natMul {S : F.R → Prop} (h : IsSub S) {x : F.R} (hx : S x) : ∀ k : Nat, S (((k : Int) : F.R) * x)
  | 0 => by rw [show (((0 : Nat) : Int) : F.R) * x = 0 by grind]; exact h.zero
  | k + 1 => by
    rw [show (((k + 1 : Nat) : Int) : F.R) * x = ((k : Int) : F.R) * x + x by
      rw [show ((k + 1 : Nat) : Int) = (k : Int) + 1 by omega]; grind]
    exact h.add (h.natMul hx k) hx
theorem IsSub.int {S : F.R → Prop} (h : IsSub S) {x : F.R} (hx : S x) (c : Int) : S ((c : F.R) * x) := by
  rcases Int.natAbs_eq c with e | e
  · rw [e]; exact h.natMul hx _
  · rw [e, show ((-(c.natAbs : Int) : Int) : F.R) * x = -(((c.natAbs : Int) : F.R) * x) by grind]
    exact h.neg (h.natMul hx _)
/-- all sums of some numbers -/
def Sp (G : F.R → Prop) (x : F.R) : Prop := ∀ S : F.R → Prop, IsSub S → (∀ g, G g → S g) → S x
theorem Sp.is (G : F.R → Prop) : IsSub (Sp G) := ⟨fun S h _ => h.zero, fun hx hy S h g => h.sub (hx S h g) (hy S h g)⟩
theorem Sp.of {G : F.R → Prop} {x : F.R} (h : G x) : Sp G x := fun _ _ g => g x h
theorem Sp.le {G S : F.R → Prop} (h : IsSub S) (g : ∀ x, G x → S x) {x : F.R} (hx : Sp G x) : S x := hx S h g
theorem Sp.mono {G H : F.R → Prop} (g : ∀ x, G x → Sp H x) {x : F.R} (hx : Sp G x) : Sp H x := hx.le (Sp.is H) g
/-- the powers of the root -/
def NF.e (F : NF) (i : Nat) : F.R := F.cl (PZ.xp i)
theorem NF.co_e {i : Nat} (h : i < F.n) (t : Nat) : NF.co (F.e i) t = if t = i then 1 else 0 := by
  unfold NF.co NF.e
  rw [NF.lo_mk, xp_co]
  intro t ht
  rw [xp_co, if_neg (by omega)]
theorem NF.e_succ (i : Nat) : F.e (i + 1) = F.cl PZ.X * F.e i := rfl
theorem NF.e_zero : F.e 0 = 1 := rfl
/-- a number's low places -/
noncomputable def NF.part (x : F.R) : Nat → F.R
  | 0 => 0
  | s + 1 => NF.part x s + (NF.co x s : F.R) * F.e s
theorem NF.co_part (x : F.R) : ∀ (s : Nat), s ≤ F.n → ∀ t, NF.co (NF.part x s) t = if t < s then NF.co x t else 0
  | 0, _, t => by rw [if_neg (by omega)]; exact NF.co_zero t
  | s + 1, hs, t => by
    show NF.co (NF.part x s + (NF.co x s : F.R) * F.e s) t = _
    rw [NF.co_add, NF.co_int_mul, NF.co_part x s (by omega) t, NF.co_e (by omega)]
    by_cases h : t < s
    · rw [if_pos h, if_neg (by omega), if_pos (by omega)]; omega
    · by_cases h2 : t = s
      · rw [if_neg h, if_pos h2, if_pos (by omega), h2]; omega
      · rw [if_neg h, if_neg h2, if_neg (by omega)]; omega
theorem NF.part_all (x : F.R) : NF.part x F.n = x := NF.ext fun t ht => by rw [NF.co_part x F.n (Nat.le_refl _), if_pos ht]
theorem IsSub.all {S : F.R → Prop} (h : IsSub S) (he : ∀ i, i < F.n → S (F.e i)) (x : F.R) : S x := by
  rw [← NF.part_all x]
  have : ∀ s, s ≤ F.n → S (NF.part x s) := by
    intro s
    induction s with
    | zero => intro _; exact h.zero
    | succ s ih => intro hs; exact h.add (ih (by omega)) (h.int (he s (by omega)) _)
  exact this _ (Nat.le_refl _)
/-! ### stair tables -/
/-- B 0 .. B (s - 1): corners above 0, noughts behind them -/
structure Tb (F : NF) (B : Nat → F.R) : Prop where
  up : ∀ i j, i < F.n → i < j → NF.co (B i) j = 0
  pos : ∀ i, i < F.n → 0 < NF.co (B i) i
structure TbR (F : NF) (B : Nat → F.R) : Prop extends Tb F B where
  red : ∀ i j, i < F.n → j < i → 0 ≤ NF.co (B i) j ∧ NF.co (B i) j < NF.co (B j) j
def Rw (B : Nat → F.R) (x : F.R) : Prop := ∃ i, i < F.n ∧ x = B i
/-- what falls to nought -/
def Mem (B : Nat → F.R) : Nat → F.R → Prop
  | 0, x => x = 0
  | s + 1, x => NF.co (B s) s ∣ NF.co x s ∧ Mem B s (x - ((NF.co x s / NF.co (B s) s : Int) : F.R) * B s)
theorem Mem.is (B : Nat → F.R) : ∀ s, IsSub (Mem B s)
  | 0 => ⟨rfl, fun {x y} hx hy => by have hx : x = 0 := hx; have hy : y = 0 := hy; show x - y = 0; rw [hx, hy]; grind⟩
  | s + 1 => by
    have ih := Mem.is B s
    constructor
    · refine ⟨by rw [NF.co_zero]; exact Int.dvd_zero _, ?_⟩
      rw [NF.co_zero, Int.zero_ediv, show (0 : F.R) - ((0 : Int) : F.R) * B s = 0 by grind]
      exact ih.zero
    · intro x y hx hy
      obtain ⟨h1, h2⟩ := hx
      obtain ⟨h3, h4⟩ := hy
      refine ⟨by rw [NF.co_sub]; exact Int.dvd_sub h1 h3, ?_⟩
      rw [NF.co_sub, Int.sub_ediv_of_dvd _ h3]
      have := ih.sub h2 h4
      rwa [show x - ((NF.co x s / NF.co (B s) s : Int) : F.R) * B s - (y - ((NF.co y s / NF.co (B s) s : Int) : F.R) * B s) = x - y - ((NF.co x s / NF.co (B s) s - NF.co y s / NF.co (B s) s : Int) : F.R) * B s by grind] at this
theorem Mem.lift {B : Nat → F.R} {s : Nat} {x : F.R} (h : Mem B s x) (h0 : NF.co x s = 0) : Mem B (s + 1) x := by
  refine ⟨by rw [h0]; exact Int.dvd_zero _, ?_⟩
  rw [h0, Int.zero_ediv, show x - ((0 : Int) : F.R) * B s = x by grind]
  exact h
theorem Mem.row {B : Nat → F.R} (hB : Tb F B) {i : Nat} (hi : i < F.n) : ∀ d, i + 1 + d ≤ F.n → Mem B (i + 1 + d) (B i)
  | 0, _ => by
    have hp := hB.pos i hi
    refine ⟨Int.dvd_refl _, ?_⟩
    rw [Int.ediv_self (by omega), show B i - ((1 : Int) : F.R) * B i = 0 by grind]
    exact (Mem.is B i).zero
  | d + 1, h => Mem.lift (s := i + 1 + d) (Mem.row hB hi d (by omega)) (hB.up i (i + 1 + d) hi (by omega))
theorem Mem.span {B : Nat → F.R} : ∀ {s : Nat} {x : F.R}, s ≤ F.n → Mem B s x → Sp (Rw B) x
  | 0, x, _, h => by have h : x = 0 := h; rw [h]; exact (Sp.is _).zero
  | s + 1, x, hs, h => by
    have h1 := Mem.span (by omega) h.2
    have h2 := (Sp.is (Rw B)).int (Sp.of (G := Rw B) ⟨s, by omega, rfl⟩) (NF.co x s / NF.co (B s) s)
    have := (Sp.is (Rw B)).add h1 h2
    rwa [show x - ((NF.co x s / NF.co (B s) s : Int) : F.R) * B s + ((NF.co x s / NF.co (B s) s : Int) : F.R) * B s = x by grind] at this
theorem mem_iff {B : Nat → F.R} (hB : Tb F B) {x : F.R} : Sp (Rw B) x ↔ Mem B F.n x := by
  constructor
  · intro h
    exact h.le (Mem.is B F.n) fun g ⟨i, hi, e⟩ => by
      rw [e]
      have := Mem.row hB hi (F.n - (i + 1)) (by omega)
      rwa [show i + 1 + (F.n - (i + 1)) = F.n by omega] at this
  · exact Mem.span (Nat.le_refl _)
theorem Mem.drop {B : Nat → F.R} {x : F.R} : ∀ {s : Nat} (d : Nat), (∀ t, s ≤ t → NF.co x t = 0) → Mem B (s + d) x → Mem B s x
  | s, 0, _, h => h
  | s, d + 1, h0, h => by
    have h2 : Mem B (s + d) (x - ((NF.co x (s + d) / NF.co (B (s + d)) (s + d) : Int) : F.R) * B (s + d)) := h.2
    rw [h0 (s + d) (by omega), Int.zero_ediv, show x - ((0 : Int) : F.R) * B (s + d) = x by grind] at h2
    exact Mem.drop d h0 h2
theorem Mem.low {B : Nat → F.R} {x : F.R} {s : Nat} (hs : s ≤ F.n) (h0 : ∀ t, s ≤ t → NF.co x t = 0) (h : Mem B F.n x) : Mem B s x :=
  Mem.drop (F.n - s) h0 (by rwa [show s + (F.n - s) = F.n by omega])
theorem dvd_small {c a : Int} (h : c ∣ a) (h1 : -c < a) (h2 : a < c) : a = 0 := by
  obtain ⟨k, rfl⟩ := h
  by_cases h3 : k = 0
  · rw [h3, Int.mul_zero]
  · exfalso
    have hc : 0 < c := by omega
    by_cases hk : 0 < k
    · have := Int.mul_le_mul_of_nonneg_left (show 1 ≤ k by omega) (show 0 ≤ c by omega); omega
    · have := Int.mul_le_mul_of_nonneg_left (show k ≤ -1 by omega) (show 0 ≤ c by omega); omega
/-- what is held and small is nought -/
theorem Mem.small {B : Nat → F.R} : ∀ {s : Nat} {x : F.R}, Mem B s x → (∀ t, t < s → -NF.co (B t) t < NF.co x t ∧ NF.co x t < NF.co (B t) t) → x = 0
  | 0, x, h, _ => h
  | s + 1, x, h, hs => by
    have e := dvd_small h.1 (hs s (by omega)).1 (hs s (by omega)).2
    have h2 := h.2
    rw [e, Int.zero_ediv, show x - ((0 : Int) : F.R) * B s = x by grind] at h2
    exact Mem.small h2 fun t ht => hs t (by omega)
/-- the rest -/
theorem tb_rest {B : Nat → F.R} {S : F.R → Prop} (hS : IsSub S) (hB : Tb F B) (hBS : ∀ i, i < F.n → S (B i)) : ∀ (s : Nat), s ≤ F.n → ∀ x : F.R, ∃ y, S (x - y) ∧ (∀ t, t < s → 0 ≤ NF.co y t ∧ NF.co y t < NF.co (B t) t) ∧ ∀ t, s ≤ t → NF.co y t = NF.co x t
  | 0, _, x => ⟨x, by rw [show x - x = 0 by grind]; exact hS.zero, fun t ht => absurd ht (by omega), fun t _ => rfl⟩
  | s + 1, hs, x => by
    have hp := hB.pos s (by omega)
    obtain ⟨y, h1, h2, h3⟩ := tb_rest hS hB hBS s (by omega) (x - ((NF.co x s / NF.co (B s) s : Int) : F.R) * B s)
    refine ⟨y, ?_, ?_, ?_⟩
    · have := hS.add h1 (hS.int (hBS s (by omega)) (NF.co x s / NF.co (B s) s))
      rwa [show x - ((NF.co x s / NF.co (B s) s : Int) : F.R) * B s - y + ((NF.co x s / NF.co (B s) s : Int) : F.R) * B s = x - y by grind] at this
    · intro t ht
      by_cases e : t < s
      · exact h2 t e
      · have e : t = s := by omega
        subst e
        rw [h3 t (Nat.le_refl _), NF.co_sub, NF.co_int_mul]
        have e1 := Int.emod_nonneg (NF.co x t) (show NF.co (B t) t ≠ 0 by omega)
        have e2 := Int.emod_lt_of_pos (NF.co x t) hp
        have e3 := Int.mul_ediv_add_emod (NF.co x t) (NF.co (B t) t)
        rw [Int.mul_comm] at e3
        constructor <;> omega
    · intro t ht
      rw [h3 t (by omega), NF.co_sub, NF.co_int_mul, hB.up s t (by omega) (by omega)]
      omega
/-- one table -/
theorem tb_uniq {A B : Nat → F.R} (hA : TbR F A) (hB : TbR F B) (h : ∀ x, Sp (Rw A) x ↔ Sp (Rw B) x) : ∀ i, i < F.n → A i = B i := by
  have corner : ∀ {A B : Nat → F.R}, TbR F A → TbR F B → (∀ x, Sp (Rw A) x ↔ Sp (Rw B) x) → ∀ i, i < F.n → NF.co (A i) i ∣ NF.co (B i) i := by
    intro A B hA hB h i hi
    have m := Mem.low (s := i + 1) (by omega) (fun t ht => hB.up i t hi (by omega)) ((mem_iff hA.toTb).mp ((h (B i)).mpr (Sp.of ⟨i, hi, rfl⟩)))
    exact m.1
  have ce : ∀ i, i < F.n → NF.co (A i) i = NF.co (B i) i := fun i hi => Int.dvd_antisymm (by have := hA.pos i hi; omega) (by have := hB.pos i hi; omega) (corner hA hB h i hi) (corner hB hA (fun x => (h x).symm) i hi)
  intro i hi
  have hd : Sp (Rw A) (A i - B i) := (Sp.is _).sub (Sp.of ⟨i, hi, rfl⟩) ((h _).mpr (Sp.of ⟨i, hi, rfl⟩))
  have hm := (mem_iff hA.toTb).mp hd
  have z := Mem.small hm fun t ht => by
    rw [NF.co_sub]
    have hp := hA.pos t ht
    by_cases h1 : t < i
    · have a := hA.red i t hi h1
      have b := hB.red i t hi h1
      rw [ce t ht] at *
      constructor <;> omega
    · by_cases h2 : t = i
      · subst h2; rw [ce t ht] at *; constructor <;> omega
      · rw [hA.up i t hi (by omega), hB.up i t hi (by omega)]; constructor <;> omega
  rw [show A i = (A i - B i) + B i by grind, z]; grind
end
/-- the least number with a property -/
theorem least_nat {P : Nat → Prop} {k : Nat} (h : P k) : ∃ m, P m ∧ ∀ j, P j → m ≤ j := by
  classical
  have : ∀ N k, k ≤ N → P k → ∃ m, P m ∧ ∀ j, P j → m ≤ j := by
    intro N
    induction N with
    | zero => intro k hk hp; have : k = 0 := by omega
              subst this; exact ⟨0, hp, fun j _ => Nat.zero_le j⟩
    | succ N ih =>
      intro k hk hp
      by_cases e : ∃ j, P j ∧ j < k
      · obtain ⟨j, hj, hl⟩ := e
        exact ih j (by omega) hj
      · exact ⟨k, hp, fun j hj => Nat.le_of_not_lt fun hl => e ⟨j, hj, hl⟩⟩
  exact this k k (Nat.le_refl _) h
section
variable {F : NF}
/-- each lattice with a whole number has a table -/
theorem tb_ex {S : F.R → Prop} (hS : IsSub S) {m : Int} (hm : 0 < m) (h : ∀ i, i < F.n → S ((m : F.R) * F.e i)) : ∃ B, TbR F B ∧ ∀ x, S x ↔ Sp (Rw B) x := by
  have step : ∀ i, i < F.n → ∃ b : F.R, S b ∧ (∀ j, i < j → NF.co b j = 0) ∧ 0 < NF.co b i ∧ ∀ c : F.R, S c → (∀ j, i < j → NF.co c j = 0) → 0 < NF.co c i → NF.co b i ≤ NF.co c i := by
    intro i hi
    obtain ⟨k, ⟨b, h1, h2, h3, h4⟩, hk⟩ := least_nat (P := fun k => ∃ b : F.R, S b ∧ (∀ j, i < j → NF.co b j = 0) ∧ 0 < NF.co b i ∧ NF.co b i = (k : Int)) (k := m.toNat) ⟨(m : F.R) * F.e i, h i hi, fun j hj => by rw [NF.co_int_mul, NF.co_e hi, if_neg (by omega), Int.mul_zero], by rw [NF.co_int_mul, NF.co_e hi, if_pos rfl]; omega, by rw [NF.co_int_mul, NF.co_e hi, if_pos rfl]; omega⟩
    refine ⟨b, h1, h2, h3, fun c g1 g2 g3 => ?_⟩
    have := hk (NF.co c i).toNat ⟨c, g1, g2, g3, by omega⟩
    omega
  have : ∃ B0 : Nat → F.R, ∀ i, i < F.n → S (B0 i) ∧ (∀ j, i < j → NF.co (B0 i) j = 0) ∧ 0 < NF.co (B0 i) i ∧ ∀ c : F.R, S c → (∀ j, i < j → NF.co c j = 0) → 0 < NF.co c i → NF.co (B0 i) i ≤ NF.co c i := by
    classical
    refine ⟨fun i => if hi : i < F.n then Classical.choose (step i hi) else 0, fun i hi => ?_⟩
    simp only [hi, dite_true]
    exact Classical.choose_spec (step i hi)
  obtain ⟨B0, h0⟩ := this
  have t0 : Tb F B0 := ⟨fun i j hi hj => (h0 i hi).2.1 j hj, fun i hi => (h0 i hi).2.2.1⟩
  have least : ∀ (s : Nat), s ≤ F.n → ∀ y : F.R, S y → (∀ t, s ≤ t → NF.co y t = 0) → (∀ t, t < s → 0 ≤ NF.co y t ∧ NF.co y t < NF.co (B0 t) t) → y = 0 := by
    intro s
    induction s with
    | zero => intro _ y _ hy _; exact NF.ext fun t _ => by rw [hy t (Nat.zero_le t), NF.co_zero]
    | succ s ih =>
      intro hs y hy g1 g2
      refine ih (by omega) y hy (fun t ht => ?_) fun t ht => g2 t (by omega)
      by_cases e : t = s
      · subst e
        have a := g2 t (by omega)
        by_cases e : 0 < NF.co y t
        · have := (h0 t (by omega)).2.2.2 y hy (fun j hj => g1 j (by omega)) e; omega
        · omega
      · exact g1 t (by omega)
  have red : ∀ i, i < F.n → ∃ b : F.R, S (B0 i - b) ∧ (∀ t, t < i → 0 ≤ NF.co b t ∧ NF.co b t < NF.co (B0 t) t) ∧ ∀ t, i ≤ t → NF.co b t = NF.co (B0 i) t := fun i hi => tb_rest hS t0 (fun j hj => (h0 j hj).1) i (by omega) (B0 i)
  have : ∃ B : Nat → F.R, ∀ i, i < F.n → S (B0 i - B i) ∧ (∀ t, t < i → 0 ≤ NF.co (B i) t ∧ NF.co (B i) t < NF.co (B0 t) t) ∧ ∀ t, i ≤ t → NF.co (B i) t = NF.co (B0 i) t := by
    classical
    refine ⟨fun i => if hi : i < F.n then Classical.choose (red i hi) else 0, fun i hi => ?_⟩
    simp only [hi, dite_true]
    exact Classical.choose_spec (red i hi)
  obtain ⟨B, hB⟩ := this
  have tB : TbR F B := by
    refine ⟨⟨fun i j hi hj => ?_, fun i hi => ?_⟩, fun i j hi hj => ?_⟩
    · rw [(hB i hi).2.2 j (by omega)]; exact (h0 i hi).2.1 j hj
    · rw [(hB i hi).2.2 i (Nat.le_refl _)]; exact (h0 i hi).2.2.1
    · rw [(hB j (by omega)).2.2 j (Nat.le_refl _)]; exact (hB i hi).2.1 j hj
  have sB : ∀ i, i < F.n → S (B i) := fun i hi => by
    have := hS.sub (h0 i hi).1 (hB i hi).1
    rwa [show B0 i - (B0 i - B i) = B i by grind] at this
  refine ⟨B, tB, fun x => ⟨fun hx => ?_, fun hx => hx.le hS fun g ⟨i, hi, e⟩ => e ▸ sB i hi⟩⟩
  obtain ⟨y, h1, h2, h3⟩ := tb_rest (S := Sp (Rw B)) (Sp.is _) tB.toTb (fun i hi => Sp.of ⟨i, hi, rfl⟩) F.n (Nat.le_refl _) x
  have sy : S y := by
    have := hS.sub hx (h1.le hS fun g ⟨i, hi, e⟩ => e ▸ sB i hi)
    rwa [show x - (x - y) = y by grind] at this
  have z := least F.n (Nat.le_refl _) y sy (fun t ht => NF.co_out y ht) fun t ht => by rw [← (hB t ht).2.2 t (Nat.le_refl _)]; exact h2 t ht
  rwa [z, show x - 0 = x by grind] at h1
end
end T
set_option maxRecDepth 100000
set_option maxHeartbeats 4000000
namespace T
open PySem PySem.Spec PyProof.Rows L2
/-! ### how many rests -/
section
variable {F : NF}
/-- T has k rests by S -/
def Ix (S U : F.R → Prop) (k : Nat) : Prop := ∃ l : List F.R, l.length = k ∧ (∀ x ∈ l, U x) ∧ l.Pairwise (fun x y => ¬ S (x - y)) ∧ ∀ x, U x → ∃ y ∈ l, S (x - y)
theorem pigeon {S : F.R → Prop} (hS : IsSub S) : ∀ (l l' : List F.R), l.Pairwise (fun x y => ¬ S (x - y)) → (∀ x ∈ l, ∃ y ∈ l', S (x - y)) → l.length ≤ l'.length
  | [], _, _, _ => Nat.zero_le _
  | x :: xs, l', hp, h => by
    obtain ⟨p1, p2⟩ := List.pairwise_cons.mp hp
    obtain ⟨y, hy, sy⟩ := h x List.mem_cons_self
    obtain ⟨a, b, rfl⟩ := List.append_of_mem hy
    have := pigeon hS xs (a ++ b) p2 fun z hz => by
      obtain ⟨w, hw, sw⟩ := h z (List.mem_cons_of_mem _ hz)
      rcases List.mem_append.mp hw with h1 | h1
      · exact ⟨w, List.mem_append_left _ h1, sw⟩
      · rcases List.mem_cons.mp h1 with h2 | h2
        · subst h2
          have := hS.sub sy sw
          rw [show x - w - (z - w) = x - z by grind] at this
          exact absurd this (p1 z hz)
        · exact ⟨w, List.mem_append_right _ h2, sw⟩
    simp only [List.length_append, List.length_cons] at this ⊢
    omega
theorem Ix.uniq {S U : F.R → Prop} (hS : IsSub S) {k k' : Nat} (h : Ix S U k) (h' : Ix S U k') : k = k' := by
  obtain ⟨l, rfl, l1, l2, l3⟩ := h
  obtain ⟨l', rfl, m1, m2, m3⟩ := h'
  exact Nat.le_antisymm (pigeon hS l l' l2 fun x hx => m3 x (l1 x hx)) (pigeon hS l' l m2 fun x hx => l3 x (m1 x hx))
theorem Ix.congr {S S' U U' : F.R → Prop} {k : Nat} (h : Ix S U k) (hs : ∀ x, S x ↔ S' x) (hu : ∀ x, U x ↔ U' x) : Ix S' U' k := by
  rwa [show S' = S from funext fun x => propext (hs x).symm, show U' = U from funext fun x => propext (hu x).symm]
theorem pairwise_sums {S U : F.R → Prop} (hS : IsSub S) (hU : IsSub U) (hSU : ∀ x, S x → U x) {m : List F.R} (hm : ∀ y ∈ m, U y) (mp : m.Pairwise (fun x y => ¬ S (x - y))) :
    ∀ l : List F.R, l.Pairwise (fun x y => ¬ U (x - y)) → (l.flatMap fun x => m.map fun y => x + y).Pairwise (fun x y => ¬ S (x - y))
  | [], _ => List.Pairwise.nil
  | x :: l, h => by
    obtain ⟨h1, h2⟩ := List.pairwise_cons.mp h
    rw [List.flatMap_cons, List.pairwise_append]
    refine ⟨?_, pairwise_sums hS hU hSU hm mp l h2, ?_⟩
    · rw [List.pairwise_map]
      exact mp.imp fun {a b} q z => q (by rwa [show x + a - (x + b) = a - b by grind] at z)
    · intro a ha b hb z
      obtain ⟨y, hy, rfl⟩ := List.mem_map.mp ha
      obtain ⟨x', hx', hb⟩ := List.mem_flatMap.mp hb
      obtain ⟨y', hy', rfl⟩ := List.mem_map.mp hb
      have w := hU.add (hSU _ z) (hU.sub (hm y' hy') (hm y hy))
      rw [show x + y - (x' + y') + (y' - y) = x - x' by grind] at w
      exact h1 x' hx' w
theorem Ix.tower {S U V : F.R → Prop} (hS : IsSub S) (hU : IsSub U) (hV : IsSub V) (hSU : ∀ x, S x → U x) (hUV : ∀ x, U x → V x) {a b : Nat} (h : Ix U V a) (g : Ix S U b) : Ix S V (a * b) := by
  obtain ⟨l, rfl, l1, l2, l3⟩ := h
  obtain ⟨m, rfl, m1, m2, m3⟩ := g
  refine ⟨l.flatMap fun x => m.map fun y => x + y, ?_, ?_, pairwise_sums hS hU hSU m1 m2 l l2, ?_⟩
  · clear l1 l2 l3
    induction l with
    | nil => simp
    | cons x l ih => rw [List.flatMap_cons, List.length_append, ih, List.length_map, List.length_cons, Nat.succ_mul, Nat.add_comm]
  · intro z hz
    obtain ⟨x, hx, hz⟩ := List.mem_flatMap.mp hz
    obtain ⟨y, hy, rfl⟩ := List.mem_map.mp hz
    exact hV.add (l1 x hx) (hUV _ (m1 y hy))
  · intro z hz
    obtain ⟨x, hx, sx⟩ := l3 z hz
    obtain ⟨y, hy, sy⟩ := m3 _ sx
    exact ⟨x + y, List.mem_flatMap.mpr ⟨x, hx, List.mem_map.mpr ⟨y, hy, rfl⟩⟩, by rwa [show z - (x + y) = z - x - y by grind]⟩
/-- the box of a table -/
noncomputable def boxL (F : NF) (B : Nat → F.R) : Nat → List F.R
  | 0 => [0]
  | s + 1 => (boxL F B s).flatMap fun x => (List.range (NF.co (B s) s).toNat).map fun a : Nat => x + ((a : Int) : F.R) * F.e s
theorem boxL_in {B : Nat → F.R} : ∀ (s : Nat), s ≤ F.n → ∀ x ∈ boxL F B s, (∀ t, t < s → 0 ≤ NF.co x t ∧ NF.co x t < NF.co (B t) t) ∧ ∀ t, s ≤ t → NF.co x t = 0
  | 0, _, x, hx => by
    rw [show x = 0 from List.mem_singleton.mp hx]
    exact ⟨fun t ht => absurd ht (by omega), fun t _ => NF.co_zero t⟩
  | s + 1, hs, x, hx => by
    obtain ⟨y, hy, hx⟩ := List.mem_flatMap.mp hx
    obtain ⟨a, ha, rfl⟩ := List.mem_map.mp hx
    have ha := List.mem_range.mp ha
    obtain ⟨g1, g2⟩ := boxL_in s (by omega) y hy
    constructor
    · intro t ht
      rw [NF.co_add, NF.co_int_mul, NF.co_e (by omega)]
      by_cases e : t = s
      · subst e; rw [g2 t (Nat.le_refl _), if_pos rfl]; omega
      · rw [if_neg e]; have := g1 t (by omega); omega
    · intro t ht
      rw [NF.co_add, NF.co_int_mul, NF.co_e (by omega), if_neg (by omega), g2 t (by omega)]
      omega
theorem boxL_all {B : Nat → F.R} : ∀ (s : Nat), s ≤ F.n → ∀ x : F.R, (∀ t, t < s → 0 ≤ NF.co x t ∧ NF.co x t < NF.co (B t) t) → (∀ t, s ≤ t → NF.co x t = 0) → x ∈ boxL F B s
  | 0, _, x, _, h => List.mem_singleton.mpr (NF.ext fun t _ => by rw [h t (Nat.zero_le t), NF.co_zero])
  | s + 1, hs, x, h, h0 => by
    refine List.mem_flatMap.mpr ⟨x - (NF.co x s : F.R) * F.e s, boxL_all s (by omega) _ ?_ ?_, List.mem_map.mpr ⟨(NF.co x s).toNat, ?_, ?_⟩⟩
    · intro t ht
      rw [NF.co_sub, NF.co_int_mul, NF.co_e (by omega), if_neg (by omega)]
      have := h t (by omega); omega
    · intro t ht
      rw [NF.co_sub, NF.co_int_mul, NF.co_e (by omega)]
      by_cases e : t = s
      · subst e; rw [if_pos rfl]; omega
      · rw [if_neg e, h0 t (by omega)]; omega
    · have := h s (by omega); exact List.mem_range.mpr (by omega)
    · have := h s (by omega)
      rw [show ((NF.co x s).toNat : Int) = NF.co x s by omega]; grind
noncomputable def szT (F : NF) (B : Nat → F.R) : Nat → Nat
  | 0 => 1
  | s + 1 => szT F B s * (NF.co (B s) s).toNat
theorem boxL_len {B : Nat → F.R} : ∀ (s : Nat), (boxL F B s).length = szT F B s
  | 0 => rfl
  | s + 1 => by
    have : ∀ (l : List F.R) (k : Nat), (l.flatMap fun x => (List.range k).map fun a : Nat => x + ((a : Int) : F.R) * F.e s).length = l.length * k := by
      intro l k
      induction l with
      | nil => simp
      | cons x l ih => rw [List.flatMap_cons, List.length_append, ih, List.length_map, List.length_range, List.length_cons, Nat.succ_mul, Nat.add_comm]
    show ((boxL F B s).flatMap _).length = szT F B s * _
    rw [this, boxL_len s]
theorem boxL_ne {B : Nat → F.R} : ∀ (s : Nat), s ≤ F.n → (boxL F B s).Pairwise fun x y => x ≠ y
  | 0, _ => by show List.Pairwise _ [_]; exact List.pairwise_singleton _ _
  | s + 1, hs => by
    have key : ∀ l : List F.R, (∀ x ∈ l, ∀ t, s ≤ t → NF.co x t = 0) → (l.Pairwise fun x y => x ≠ y) → (l.flatMap fun x => (List.range (NF.co (B s) s).toNat).map fun a : Nat => x + ((a : Int) : F.R) * F.e s).Pairwise fun x y => x ≠ y := by
      intro l
      induction l with
      | nil => intro _ _; exact List.Pairwise.nil
      | cons x l ih =>
        intro h0 hp
        obtain ⟨p1, p2⟩ := List.pairwise_cons.mp hp
        rw [List.flatMap_cons, List.pairwise_append]
        refine ⟨?_, ih (fun y hy => h0 y (List.mem_cons_of_mem _ hy)) p2, ?_⟩
        · rw [List.pairwise_map]
          exact List.nodup_range.imp fun {a b} q z => q (by
            have z := congrArg (fun w => NF.co w s) z
            simp only [NF.co_add, NF.co_int_mul, NF.co_e (show s < F.n by omega), if_pos] at z
            omega)
        · intro a ha b hb z
          obtain ⟨i, hi, rfl⟩ := List.mem_map.mp ha
          obtain ⟨y, hy, hb⟩ := List.mem_flatMap.mp hb
          obtain ⟨j, hj, rfl⟩ := List.mem_map.mp hb
          refine p1 y hy (NF.ext fun t ht => ?_)
          by_cases e : s ≤ t
          · rw [h0 x List.mem_cons_self t e, h0 y (List.mem_cons_of_mem _ hy) t e]
          · have z := congrArg (fun w => NF.co w t) z
            simp only [NF.co_add, NF.co_int_mul, NF.co_e (show s < F.n by omega), if_neg (show ¬ t = s by omega)] at z
            omega
    exact key _ (fun x hx => (boxL_in s (by omega) x hx).2) (boxL_ne s (by omega))
/-- as many rests as the product of the corners -/
theorem ix_tb {B : Nat → F.R} (hB : Tb F B) : Ix (Sp (Rw B)) (fun _ => True) (szT F B F.n) := by
  refine ⟨boxL F B F.n, boxL_len _, fun _ _ => True.intro, ?_, fun x _ => ?_⟩
  · have hin := boxL_in (B := B) F.n (Nat.le_refl _)
    have hp := boxL_ne (B := B) F.n (Nat.le_refl _)
    generalize boxL F B F.n = l at hin hp
    induction hp with
    | nil => exact List.Pairwise.nil
    | @cons x l p1 p2 ih =>
      refine List.Pairwise.cons (fun y hy z => ?_) (ih fun y hy => hin y (List.mem_cons_of_mem _ hy))
      refine p1 y hy ?_
      have z := Mem.small ((mem_iff hB).mp z) fun t ht => by
        have a := (hin x List.mem_cons_self).1 t ht
        have b := (hin y (List.mem_cons_of_mem _ hy)).1 t ht
        rw [NF.co_sub]
        constructor <;> omega
      rw [show x = x - y + y by grind, z]; grind
  · obtain ⟨y, h1, h2, h3⟩ := tb_rest (S := Sp (Rw B)) (Sp.is _) hB (fun i hi => Sp.of ⟨i, hi, rfl⟩) F.n (Nat.le_refl _) x
    exact ⟨y, boxL_all F.n (Nat.le_refl _) y h2 (fun t ht => NF.co_out y ht), h1⟩
end
end T
set_option maxRecDepth 100000
set_option maxHeartbeats 4000000
namespace T
open PySem PySem.Spec PyProof.Rows L2
/-! ### the pairing by the top place -/
section
variable {F : NF}
noncomputable def tau (x : F.R) : Int := NF.co x (F.n - 1)
theorem tau_add (x y : F.R) : tau (x + y) = tau x + tau y := NF.co_add ..
theorem tau_sub (x y : F.R) : tau (x - y) = tau x - tau y := NF.co_sub ..
theorem tau_int (c : Int) (x : F.R) : tau ((c : F.R) * x) = c * tau x := NF.co_int_mul ..
theorem tau_zero : tau (0 : F.R) = 0 := NF.co_zero _
theorem NF.lo_mul_e {x : F.R} {j : Nat} (hj : j < F.n) (h : ∀ t, F.n - j ≤ t → NF.co x t = 0) : NF.lo (x * F.e j) = PZ.xp j * NF.lo x := by
  have e : x * F.e j = F.cl (PZ.xp j * NF.lo x) := by
    show x * F.cl (PZ.xp j) = _
    rw [NF.cl_mul, NF.cl_lo]; grind
  rw [e]
  refine NF.lo_mk fun t ht => ?_
  rw [PZ.co_xp, if_pos (by omega)]
  exact h (t - j) (by omega)
theorem tau_e {x : F.R} {j : Nat} (hj : j < F.n) (h : ∀ t, F.n - j ≤ t → NF.co x t = 0) : tau (x * F.e j) = NF.co x (F.n - 1 - j) := by
  unfold tau NF.co
  rw [NF.lo_mul_e hj h, PZ.co_xp, if_pos (by omega)]
/-- what the pairing can't tell from nought -/
theorem tau_dvp {m : Int} {x : F.R} (h : ∀ j, j < F.n → m ∣ tau (x * F.e j)) : ∀ t, m ∣ NF.co x t := by
  have : ∀ k, k ≤ F.n → ∀ t, F.n - k ≤ t → m ∣ NF.co x t := by
    intro k
    induction k with
    | zero => intro _ t ht; rw [NF.co_out x (by omega)]; exact Int.dvd_zero _
    | succ k ih =>
      intro hk t ht
      by_cases e : F.n - k ≤ t
      · exact ih (by omega) t e
      · have et : t = F.n - 1 - k := by omega
        have hd : NF.Dvp m (x - NF.part x (F.n - k)) := fun s => by
          rw [NF.co_sub, NF.co_part x _ (by omega)]
          by_cases es : s < F.n - k
          · rw [if_pos es, Int.sub_self]; exact Int.dvd_zero _
          · rw [if_neg es, Int.sub_zero]; exact ih (by omega) s (by omega)
        obtain ⟨y, hy⟩ := NF.dvp_iff.mp hd
        have hx : x * F.e k = NF.part x (F.n - k) * F.e k + (m : F.R) * (y * F.e k) := by
          rw [show x = NF.part x (F.n - k) + (m : F.R) * y by rw [← hy]; grind]; grind
        have h1 := h k (by omega)
        rw [hx, tau_add, tau_int, tau_e (by omega) (fun s hs => by rw [NF.co_part x _ (by omega), if_neg (by omega)]), NF.co_part x _ (by omega), if_pos (by omega)] at h1
        rw [et]
        exact (Int.dvd_add_left ⟨_, rfl⟩).mp h1
  intro t
  by_cases ht : t < F.n
  · exact this F.n (Nat.le_refl _) t (by omega)
  · rw [NF.co_out x (by omega)]; exact Int.dvd_zero _
/-- any values are told by a number -/
theorem tau_ex (c : Nat → Int) : ∃ b : F.R, ∀ j, j < F.n → tau (b * F.e j) = c j := by
  have : ∀ k, k ≤ F.n → ∃ b : F.R, ∀ j, j < k → tau (b * F.e j) = c j := by
    intro k
    induction k with
    | zero => intro _; exact ⟨0, fun j hj => absurd hj (by omega)⟩
    | succ k ih =>
      intro hk
      obtain ⟨b, hb⟩ := ih (by omega)
      refine ⟨b + ((c k - tau (b * F.e k) : Int) : F.R) * F.e (F.n - 1 - k), fun j hj => ?_⟩
      have z : tau (F.e (F.n - 1 - k) * F.e j) = if j = k then 1 else 0 := by
        rw [tau_e (by omega) fun t ht => by rw [NF.co_e (by omega), if_neg (by omega)], NF.co_e (by omega)]
        by_cases e : j = k
        · rw [if_pos (by omega), if_pos e]
        · rw [if_neg (by omega), if_neg e]
      rw [show (b + ((c k - tau (b * F.e k) : Int) : F.R) * F.e (F.n - 1 - k)) * F.e j = b * F.e j + ((c k - tau (b * F.e k) : Int) : F.R) * (F.e (F.n - 1 - k) * F.e j) by grind, tau_add, tau_int, z]
      by_cases e : j = k
      · subst e; rw [if_pos rfl]; omega
      · rw [if_neg e, hb j (by omega)]; omega
  exact this F.n (Nat.le_refl _)
/-! ### sums by a table -/
def isum (g : Nat → Int) : Nat → Int
  | 0 => 0
  | s + 1 => isum g s + g s
def lc (a : Nat → Int) (B : Nat → F.R) : Nat → F.R
  | 0 => 0
  | s + 1 => lc a B s + (a s : F.R) * B s
theorem lc_congr {a b : Nat → Int} {B : Nat → F.R} : ∀ {s : Nat}, (∀ i, i < s → a i = b i) → lc a B s = lc b B s
  | 0, _ => rfl
  | s + 1, h => by show lc a B s + _ = lc b B s + _; rw [lc_congr fun i hi => h i (by omega), h s (by omega)]
theorem lc_in {S : F.R → Prop} (hS : IsSub S) {B : Nat → F.R} (a : Nat → Int) : ∀ {s}, (∀ i, i < s → S (B i)) → S (lc a B s)
  | 0, _ => hS.zero
  | s + 1, h => hS.add (lc_in hS a fun i hi => h i (by omega)) (hS.int (h s (by omega)) _)
theorem lc_sub (a b : Nat → Int) (B : Nat → F.R) : ∀ s, lc a B s - lc b B s = lc (fun i => a i - b i) B s
  | 0 => by show (0 : F.R) - 0 = 0; grind
  | s + 1 => by show (lc a B s + _) - (lc b B s + _) = lc _ B s + _; rw [← lc_sub a b B s]; grind
theorem lc_int (c : Int) (a : Nat → Int) (B : Nat → F.R) : ∀ s, (c : F.R) * lc a B s = lc (fun i => c * a i) B s
  | 0 => by show (c : F.R) * 0 = 0; grind
  | s + 1 => by show (c : F.R) * (lc a B s + _) = lc _ B s + _; rw [← lc_int c a B s]; grind
theorem Sp.lc {B : Nat → F.R} {x : F.R} (h : Sp (Rw B) x) : ∃ a, x = T.lc a B F.n := by
  refine h.le (S := fun x => ∃ a, x = T.lc a B F.n) ⟨⟨fun _ => 0, ?_⟩, fun {x y} ⟨a, ha⟩ ⟨b, hb⟩ => ⟨fun i => a i - b i, by rw [ha, hb, lc_sub]⟩⟩ fun g ⟨i, hi, e⟩ => ⟨fun j => if j = i then 1 else 0, ?_⟩
  · have : ∀ s, T.lc (fun _ => 0) B s = 0 := fun s => by
      induction s with
      | zero => rfl
      | succ s ih => show T.lc _ B s + _ = _; rw [ih]; grind
    exact (this _).symm
  · have : ∀ s, T.lc (fun j => if j = i then 1 else 0) B s = if i < s then B i else 0 := fun s => by
      induction s with
      | zero => rfl
      | succ s ih =>
        show T.lc _ B s + _ = _
        rw [ih]
        by_cases e : s = i
        · subst e; rw [if_neg (by omega), if_pos (by omega)]
          show (0 : F.R) + ((if s = s then 1 else 0 : Int) : F.R) * B s = B s
          rw [if_pos rfl]; grind
        · show _ + ((if s = i then 1 else 0 : Int) : F.R) * B s = _
          rw [if_neg e]
          by_cases e2 : i < s
          · rw [if_pos e2, if_pos (by omega)]; grind
          · rw [if_neg e2, if_neg (by omega)]; grind
    rw [this, if_pos hi, e]
/-- the rows of a table are free -/
theorem lc_zero {a : Nat → Int} {B : Nat → F.R} (hB : Tb F B) : ∀ {s : Nat}, s ≤ F.n → lc a B s = 0 → ∀ i, i < s → a i = 0
  | 0, _, _, i, hi => absurd hi (by omega)
  | s + 1, hs, h, i, hi => by
    have low : ∀ s t, s ≤ t → s ≤ F.n → NF.co (lc a B s) t = 0 := by
      intro s
      induction s with
      | zero => intro t _ _; exact NF.co_zero t
      | succ s ih =>
        intro t ht hs
        show NF.co (lc a B s + _) t = 0
        rw [NF.co_add, NF.co_int_mul, ih t (by omega) (by omega), hB.up s t (by omega) (by omega)]
        omega
    have h1 := congrArg (fun z => NF.co z s) h
    have h1 : NF.co (lc a B s + (a s : F.R) * B s) s = NF.co (0 : F.R) s := h1
    rw [NF.co_add, NF.co_int_mul, low s s (Nat.le_refl _) (by omega), NF.co_zero, Int.zero_add] at h1
    have hp := hB.pos s (by omega)
    have as : a s = 0 := by
      rcases Int.mul_eq_zero.mp h1 with e | e
      · exact e
      · omega
    by_cases e : i = s
    · rw [e]; exact as
    · refine lc_zero hB (s := s) (by omega) ?_ i (by omega)
      have h : lc a B s + (a s : F.R) * B s = 0 := h
      rw [as] at h
      rw [← h]; grind
theorem lc_uniq {a b : Nat → Int} {B : Nat → F.R} (hB : Tb F B) (h : lc a B F.n = lc b B F.n) : ∀ i, i < F.n → a i = b i := fun i hi => by
  have := lc_zero hB (s := F.n) (Nat.le_refl _) (by rw [← lc_sub a b, h]; grind) i hi
  omega
/-! ### ideals -/
structure IsId (S : F.R → Prop) : Prop extends IsSub S where
  turn : ∀ {x}, S x → S (F.cl PZ.X * x)
theorem IsId.mul {S : F.R → Prop} (h : IsId S) {x : F.R} (hx : S x) (a : F.R) : S (a * x) := by
  have he : ∀ i, S (F.e i * x) := fun i => by
    induction i with
    | zero => rw [NF.e_zero, show (1 : F.R) * x = x by grind]; exact hx
    | succ i ih => rw [NF.e_succ, show F.cl PZ.X * F.e i * x = F.cl PZ.X * (F.e i * x) by grind]; exact h.turn ih
  refine IsSub.all (S := fun a => S (a * x)) ⟨by rw [show (0 : F.R) * x = 0 by grind]; exact h.zero, fun {a b} ha hb => ?_⟩ (fun i _ => he i) a
  rw [show (a - b) * x = a * x - b * x by grind]
  exact h.sub ha hb
theorem IsId.all {S : F.R → Prop} (h : IsId S) (h1 : S 1) (x : F.R) : S x := by
  have := h.mul h1 x
  rwa [show x * 1 = x by grind] at this
theorem isId_of {S : F.R → Prop} (h : IsSub S) (hm : ∀ a x, S x → S (a * x)) : IsId S := ⟨h, fun hx => hm _ _ hx⟩
/-- the products of two -/
def Pd (I J : F.R → Prop) (z : F.R) : Prop := ∃ x y, I x ∧ J y ∧ z = x * y
def Pr (I J : F.R → Prop) : F.R → Prop := Sp (Pd I J)
theorem Pr.of {I J : F.R → Prop} {x y : F.R} (hx : I x) (hy : J y) : Pr I J (x * y) := Sp.of ⟨x, y, hx, hy, rfl⟩
theorem Pr.id {I J : F.R → Prop} (hI : IsId I) : IsId (Pr I J) := by
  refine isId_of (Sp.is _) fun a x hx => ?_
  refine hx.le (S := fun x => Pr I J (a * x)) ⟨by show Pr I J (a * 0); rw [show a * (0 : F.R) = 0 by grind]; exact (Sp.is _).zero, fun {x y} h1 h2 => ?_⟩ fun g ⟨u, v, hu, hv, e⟩ => ?_
  · show Pr I J (a * (x - y))
    rw [show a * (x - y) = a * x - a * y by grind]
    exact (Sp.is _).sub h1 h2
  · show Pr I J (a * g)
    rw [e, show a * (u * v) = (a * u) * v by grind]
    exact Pr.of (hI.mul hu a) hv
theorem Pr.comm {I J : F.R → Prop} {x : F.R} (h : Pr I J x) : Pr J I x := Sp.mono (fun g ⟨u, v, hu, hv, e⟩ => by rw [e, show u * v = v * u by grind]; exact Pr.of hv hu) h
theorem Pr.mono {I J I' J' : F.R → Prop} (hI : ∀ x, I x → I' x) (hJ : ∀ x, J x → J' x) {x : F.R} (h : Pr I J x) : Pr I' J' x := Sp.mono (fun g ⟨u, v, hu, hv, e⟩ => by rw [e]; exact Pr.of (hI u hu) (hJ v hv)) h
theorem Pr.le {I J S : F.R → Prop} (hS : IsSub S) (h : ∀ x y, I x → J y → S (x * y)) {z : F.R} (hz : Pr I J z) : S z := Sp.le hS (fun g ⟨u, v, hu, hv, e⟩ => e ▸ h u v hu hv) hz
theorem Pr.assoc {I J K : F.R → Prop} {x : F.R} (h : Pr (Pr I J) K x) : Pr I (Pr J K) x := by
  refine Pr.le (Sp.is _) (fun z w hz hw => ?_) h
  refine Pr.le (S := fun z => Pr I (Pr J K) (z * w)) ⟨by show Pr I _ (0 * w); rw [show (0 : F.R) * w = 0 by grind]; exact (Sp.is _).zero, fun {x y} h1 h2 => ?_⟩ (fun u v hu hv => ?_) hz
  · show Pr I _ ((x - y) * w)
    rw [show (x - y) * w = x * w - y * w by grind]
    exact (Sp.is _).sub h1 h2
  · show Pr I _ (u * v * w)
    rw [show u * v * w = u * (v * w) by grind]
    exact Pr.of hu (Pr.of hv hw)
theorem Pr.assoc' {I J K : F.R → Prop} {x : F.R} (h : Pr I (Pr J K) x) : Pr (Pr I J) K x :=
  (Pr.assoc (Pr.mono (fun _ h => h) (fun _ h => h) h.comm |> fun h => (Pr.mono (fun _ z => Pr.comm z) (fun _ z => z) h : Pr (Pr K J) I x))).comm |> fun h => Pr.mono (fun _ z => Pr.comm z) (fun _ z => z) h
/-- all multiples of m -/
abbrev Mm (F : NF) (m : Int) : F.R → Prop := fun x => NF.Dvp m x
theorem mm_is (m : Int) : IsId (Mm F m) := by
  refine isId_of ⟨fun t => by rw [NF.co_zero]; exact Int.dvd_zero _, fun {x y} hx hy t => by rw [NF.co_sub]; exact Int.dvd_sub (hx t) (hy t)⟩ fun a x hx => ?_
  obtain ⟨y, rfl⟩ := NF.dvp_iff.mp hx
  exact NF.dvp_iff.mpr ⟨a * y, by grind⟩
theorem mm_int (m : Int) (x : F.R) : Mm F m ((m : F.R) * x) := NF.dvp_iff.mpr ⟨x, rfl⟩
/-! ### the dual -/
def Du (m : Int) (J : F.R → Prop) (y : F.R) : Prop := ∀ x, J x → NF.Dvp m (x * y)
theorem Du.is (m : Int) (J : F.R → Prop) : IsId (Du m J) := by
  refine isId_of ⟨fun x _ => by rw [show x * (0 : F.R) = 0 by grind]; exact (mm_is m).zero, fun {a b} ha hb x hx => ?_⟩ fun a y hy x hx => ?_
  · rw [show x * (a - b) = x * a - x * b by grind]; exact (mm_is m).sub (ha x hx) (hb x hx)
  · rw [show x * (a * y) = a * (x * y) by grind]; exact (mm_is m).mul (hy x hx) a
theorem Du.m (m : Int) (J : F.R → Prop) : Du m J (m : F.R) := fun x _ => NF.dvp_iff.mpr ⟨x, by grind⟩
theorem du_tau {m : Int} {J : F.R → Prop} (hJ : IsId J) {y : F.R} (h : ∀ x, J x → m ∣ tau (x * y)) : Du m J y := fun x hx => tau_dvp fun j _ => by
  rw [show x * y * F.e j = (F.e j * x) * y by grind]
  exact h _ (hJ.mul hx _)
/-- the numbers that belong to the rows of a table -/
structure Dual (m : Int) (B β : Nat → F.R) : Prop where
  ex : ∀ x : F.R, (m : F.R) * x = lc (fun i => tau (β i * x)) B F.n
theorem dual_ex {J : F.R → Prop} {m : Int} {B : Nat → F.R} (hJ : ∀ x, J x ↔ Sp (Rw B) x) (hm : ∀ x, J ((m : F.R) * x)) : ∃ β, Dual m B β := by
  have h1 : ∀ k, ∃ U : Nat → Int, (m : F.R) * F.e k = lc U B F.n := fun k => Sp.lc ((hJ _).mp (hm _))
  have h1 : ∃ U : Nat → Nat → Int, ∀ k, (m : F.R) * F.e k = lc (U k) B F.n := ⟨fun k => Classical.choose (h1 k), fun k => Classical.choose_spec (h1 k)⟩
  obtain ⟨U, hU⟩ := h1
  have h2 : ∀ i, ∃ b : F.R, ∀ k, k < F.n → tau (b * F.e k) = U k i := fun i => tau_ex fun k => U k i
  have h2 : ∃ β : Nat → F.R, ∀ i k, k < F.n → tau (β i * F.e k) = U k i := ⟨fun i => Classical.choose (h2 i), fun i => Classical.choose_spec (h2 i)⟩
  obtain ⟨β, hβ⟩ := h2
  refine ⟨β, ⟨fun x => IsSub.all (S := fun x => (m : F.R) * x = lc (fun i => tau (β i * x)) B F.n) ⟨?_, fun {x y} hx hy => ?_⟩ (fun k hk => ?_) x⟩⟩
  · show (m : F.R) * 0 = lc (fun i => tau (β i * 0)) B F.n
    rw [lc_congr (b := fun i => (0 : Int) * 0) fun i _ => by rw [show β i * (0 : F.R) = 0 by grind, tau_zero]; rfl, ← lc_int]
    grind
  · show (m : F.R) * (x - y) = lc (fun i => tau (β i * (x - y))) B F.n
    have hx : (m : F.R) * x = lc (fun i => tau (β i * x)) B F.n := hx
    have hy : (m : F.R) * y = lc (fun i => tau (β i * y)) B F.n := hy
    rw [show (m : F.R) * (x - y) = (m : F.R) * x - (m : F.R) * y by grind, hx, hy, lc_sub]
    exact lc_congr fun i _ => by rw [show β i * (x - y) = β i * x - β i * y by grind, tau_sub]
  · show (m : F.R) * F.e k = lc (fun i => tau (β i * F.e k)) B F.n
    rw [hU k]
    exact lc_congr fun i _ => (hβ i k hk).symm
section
variable {J : F.R → Prop} {m : Int} {B β : Nat → F.R}
theorem Dual.row (hd : Dual m B β) (hB : Tb F B) {a : Nat → Int} {x : F.R} (hx : x = lc a B F.n) : ∀ i, i < F.n → tau (β i * x) = m * a i := by
  have h := hd.ex x
  have h2 : (m : F.R) * x = lc (fun i => m * a i) B F.n := by rw [hx, lc_int]
  exact lc_uniq hB (h.symm.trans h2)
theorem Dual.inn (hd : Dual m B β) (hm : m ≠ 0) (hJ : ∀ x, J x ↔ Sp (Rw B) x) {x : F.R} (h : ∀ i, i < F.n → m ∣ tau (β i * x)) : J x := by
  have e := hd.ex x
  have e2 : (m : F.R) * x = (m : F.R) * lc (fun i => tau (β i * x) / m) B F.n := by
    rw [e, lc_int]
    exact lc_congr fun i hi => (Int.mul_ediv_cancel' (h i hi)).symm
  rw [NF.int_cancel hm e2]
  exact (hJ _).mpr (lc_in (Sp.is _) _ fun i hi => Sp.of ⟨i, hi, rfl⟩)
theorem Dual.du (hd : Dual m B β) (hB : Tb F B) (hI : IsId J) (hJ : ∀ x, J x ↔ Sp (Rw B) x) {i : Nat} (hi : i < F.n) : Du m J (β i) := du_tau hI fun x hx => by
  obtain ⟨a, ha⟩ := Sp.lc ((hJ x).mp hx)
  rw [show x * β i = β i * x by grind, hd.row hB ha i hi]
  exact ⟨_, rfl⟩
end
theorem IsId.ints {J : F.R → Prop} (h : IsId J) {m : Int} (hm : J (m : F.R)) (x : F.R) : J ((m : F.R) * x) := by
  rw [show (m : F.R) * x = x * (m : F.R) by grind]; exact h.mul hm x
/-- the dual's dual -/
theorem du_du {J : F.R → Prop} {m : Int} (hI : IsId J) (hm : 0 < m) (hJ : J (m : F.R)) {z : F.R} (hz : Du m (Du m J) z) : J z := by
  obtain ⟨B, hB, hJB⟩ := tb_ex hI.toIsSub hm fun i _ => hI.ints hJ _
  obtain ⟨β, hd⟩ := dual_ex hJB (hI.ints hJ)
  refine hd.inn (by omega) hJB fun i hi => ?_
  exact hz (β i) (hd.du hB.toTb hI hJB hi) _
end
end T
set_option maxRecDepth 100000
set_option maxHeartbeats 4000000
namespace T
open PySem PySem.Spec PyProof.Rows L2
/-! ### any prime -/
section
variable {p : Int}
theorem inv_any (hp : PrI p) : ∀ (N : Nat) (c : Int), c.natAbs ≤ N → 0 < c → c < p → ∃ d k : Int, c * d = 1 + p * k
  | 0, c, h, h0, _ => by omega
  | N + 1, c, h, h0, h1 => by
    by_cases e : c = 1
    · exact ⟨1, 0, by rw [e]; omega⟩
    have hr0 := Int.emod_nonneg p (show c ≠ 0 by omega)
    have hr1 := Int.emod_lt_of_pos p h0
    have hr2 := Int.mul_ediv_add_emod p c
    generalize hq : p / c = q at hr2
    generalize hr : p % c = r at hr0 hr1 hr2
    have hr3 : r ≠ 0 := by
      intro z
      rw [z, Int.add_zero] at hr2
      rcases hp.2 c q (by rw [hr2]; exact Int.dvd_refl _) with d | d
      · have := Int.le_of_dvd h0 d; omega
      · have hq0 : 0 < q := by
          apply Classical.byContradiction
          intro z
          have := Int.mul_le_mul_of_nonneg_left (show q ≤ 0 by omega) (show 0 ≤ c by omega)
          omega
        have := Int.le_of_dvd hq0 d
        have := Int.mul_le_mul_of_nonneg_right (show 2 ≤ c by omega) (show 0 ≤ q by omega)
        omega
    obtain ⟨d, k, e⟩ := inv_any hp N r (by omega) (by omega) (by omega)
    exact ⟨-(q * d), k - d, by
      have : r = p - c * q := by omega
      rw [this] at e
      grind⟩
theorem invP_any (hp : PrI p) : InvP p := by
  refine ⟨hp, fun c hc => ?_⟩
  have h0 := Int.emod_nonneg c (show p ≠ 0 by have := hp.1; omega)
  have h1 := Int.emod_lt_of_pos c (show 0 < p by have := hp.1; omega)
  have h2 : c % p ≠ 0 := fun z => hc (Int.dvd_of_emod_eq_zero z)
  obtain ⟨d, k, e⟩ := inv_any hp _ (c % p) (Nat.le_refl _) (by omega) h1
  have h3 := Int.mul_ediv_add_emod c p
  generalize c / p = q at h3
  generalize c % p = r at e h3
  exact ⟨d, k + q * d, by rw [← h3]; grind⟩
theorem mon_quot {d f q s : PZ} {k m : Nat} (hd : d.Mon k) (hf : f.Mon m) (hkm : k ≤ m) (e : f = q * d + s) (b : s.Bd k) : q.Mon (m - k) := by
  have hq0 : q ≠ 0 := fun z => by
    have : f = s := by rw [e, z]; grind
    have h1 := hf.top
    rw [this, b m hkm] at h1
    omega
  obtain ⟨l, h1, h2⟩ := PZ.deg hq0
  obtain ⟨p1, p2⟩ := PZ.mul_top h1 hd.bd
  have ef : q * d = f - s := by grind
  rw [ef, PZ.co_sub, hd.top, Int.mul_one] at p2
  have hlm : l + k = m := by
    apply Classical.byContradiction
    intro z
    by_cases hlt : m < l + k
    · rw [hf.bd _ (by omega), b _ (by omega)] at p2
      omega
    · have := p1 m (by omega)
      rw [ef, PZ.co_sub, hf.top, b m hkm] at this
      omega
  rw [show m - k = l by omega]
  refine ⟨h1, ?_⟩
  rw [← p2, hlm, hf.top, b m hkm]
  rfl
theorem irp_ex {f : PZ} {n : Nat} (p1 : 1 < p) (hf : f.Mon n) (hn : 1 ≤ n) : ∃ g m, Irp p g m ∧ m ≤ n ∧ Dvm p g f := by
  obtain ⟨m, ⟨g, h1, h2, h3⟩, hl⟩ := least_nat (P := fun m => ∃ g : PZ, 1 ≤ m ∧ g.Mon m ∧ Dvm p g f) (k := n) ⟨f, hn, hf, Dvm.self⟩
  exact ⟨g, m, ⟨h2, h1, fun k d hk1 hk2 hd hdv => by have := hl k ⟨d, hk1, hd, hdv.trans h3⟩; omega⟩, hl n ⟨f, hn, hf, Dvm.self⟩, h3⟩
abbrev prodT (l : List (PZ × Nat × Nat)) : PZ := l.foldr (fun x b => x.1 ^ x.2.2 * b) 1
theorem fac_ins (hp : InvP p) {g : PZ} {m : Nat} (hg : Irp p g m) : ∀ l : List (PZ × Nat × Nat), (∀ x ∈ l, Irp p x.1 x.2.1 ∧ 1 ≤ x.2.2) → l.Pairwise (fun x y => ¬ Dvm p x.1 y.1) →
    ∃ l' : List (PZ × Nat × Nat), (∀ x ∈ l', Irp p x.1 x.2.1 ∧ 1 ≤ x.2.2) ∧ l'.Pairwise (fun x y => ¬ Dvm p x.1 y.1) ∧ Eqp p (g * prodT l) (prodT l') ∧ ∀ y ∈ l', y.1 = g ∨ ∃ z ∈ l, z.1 = y.1
  | [], _, _ => ⟨[(g, m, 1)], fun x hx => by rw [List.mem_singleton.mp hx]; exact ⟨hg, Nat.le_refl _⟩, List.pairwise_singleton _ _, by
      show Eqp p (g * 1) (g ^ 1 * 1)
      rw [Lean.Grind.Semiring.pow_succ, Lean.Grind.Semiring.pow_zero]
      exact ⟨0, by grind⟩, fun y hy => .inl (by rw [List.mem_singleton.mp hy])⟩
  | x :: xs, h, hw => by
    obtain ⟨w1, w2⟩ := List.pairwise_cons.mp hw
    obtain ⟨ix, ex⟩ := h x List.mem_cons_self
    by_cases hd : Dvm p x.1 g
    · obtain ⟨_, e⟩ := ix.eq_of hp hg hd
      refine ⟨(x.1, x.2.1, x.2.2 + 1) :: xs, fun y hy => ?_, List.Pairwise.cons w1 w2, ?_, fun y hy => ?_⟩
      · rcases List.mem_cons.mp hy with rfl | hy
        · exact ⟨ix, by show 1 ≤ x.2.2 + 1; omega⟩
        · exact h y (List.mem_cons_of_mem _ hy)
      · show Eqp p (g * (x.1 ^ x.2.2 * prodT xs)) (x.1 ^ (x.2.2 + 1) * prodT xs)
        rw [Lean.Grind.Semiring.pow_succ]
        obtain ⟨c, hc⟩ := e
        exact ⟨-(c * x.1 ^ x.2.2 * prodT xs), by rw [hc]; grind⟩
      · rcases List.mem_cons.mp hy with rfl | hy
        · exact .inr ⟨x, List.mem_cons_self, rfl⟩
        · exact .inr ⟨y, List.mem_cons_of_mem _ hy, rfl⟩
    · obtain ⟨l', h1, h2, h3, h4⟩ := fac_ins hp hg xs (fun y hy => h y (List.mem_cons_of_mem _ hy)) w2
      refine ⟨x :: l', fun y hy => ?_, List.Pairwise.cons (fun y hy => ?_) h2, ?_, fun y hy => ?_⟩
      · rcases List.mem_cons.mp hy with rfl | hy
        · exact ⟨ix, ex⟩
        · exact h1 y hy
      · rcases h4 y hy with e | ⟨z, hz, e⟩
        · rw [e]; exact hd
        · rw [← e]; exact w1 z hz
      · show Eqp p (g * (x.1 ^ x.2.2 * prodT xs)) (x.1 ^ x.2.2 * prodT l')
        rw [show g * (x.1 ^ x.2.2 * prodT xs) = x.1 ^ x.2.2 * (g * prodT xs) by grind]
        exact (Eqp.refl p _).mul h3
      · rcases List.mem_cons.mp hy with rfl | hy
        · exact .inr ⟨y, List.mem_cons_self, rfl⟩
        · rcases h4 y hy with e | ⟨z, hz, e⟩
          · exact .inl e
          · exact .inr ⟨z, List.mem_cons_of_mem _ hz, e⟩
theorem fac_ex (hp : InvP p) : ∀ (N n : Nat) (f : PZ), n ≤ N → f.Mon n → ∃ l : List (PZ × Nat × Nat), (∀ x ∈ l, Irp p x.1 x.2.1 ∧ 1 ≤ x.2.2) ∧ l.Pairwise (fun x y => ¬ Dvm p x.1 y.1) ∧ Eqp p f (prodT l)
  | 0, n, f, hN, hf => by
    refine ⟨[], (fun x hx => nomatch hx), List.Pairwise.nil, ?_⟩
    have : f = 1 := PZ.ext fun t => by
      rw [PZ.co_one]
      by_cases e : t = 0
      · rw [if_pos e, e, ← hf.top]; congr 1; omega
      · rw [if_neg e]; exact hf.bd t (by omega)
    rw [this]; exact Eqp.refl _ _
  | N + 1, n, f, hN, hf => by
    by_cases hn : n = 0
    · exact fac_ex hp N n f (by omega) hf
    · obtain ⟨g, m, hg, hm, hd⟩ := irp_ex hp.pr.1 hf (by omega)
      obtain ⟨q, hq, e⟩ := cofac hg.mon hf hm hd
      have := hg.pos
      obtain ⟨l, h1, h2, h3⟩ := fac_ex hp N (n - m) q (by omega) hq
      obtain ⟨l', g1, g2, g3, _⟩ := fac_ins hp hg l h1 h2
      refine ⟨l', g1, g2, e.trans (Eqp.trans ?_ g3)⟩
      rw [show q * g = g * q by grind]
      exact (Eqp.refl p g).mul h3
theorem prodT_mem {l : List (PZ × Nat × Nat)} {x : PZ × Nat × Nat} (hx : x ∈ l) : ∃ k : PZ, prodT l = x.1 ^ x.2.2 * k := foldr_mem hx
end
theorem Gd.mon' {f : List Int} {n : Nat} (hg : Gd f) (hl : f.length = n + 1) : (PZ.of f).Mon n := by
  obtain ⟨g, rfl, h1, h2, h3⟩ := hg
  have : g.length = n := by simpa using hl
  refine ⟨fun t ht => co_out (by simp; omega), ?_⟩
  show co (g ++ [1]) n = 1
  exact co_some (by rw [← this]; simp)
/-- a double factor whose rest p p divides makes p p divide the measure -/
theorem double_sizeG {f g : List Int} {u r : PZ} {n m : Nat} {p size : Int} (hg : Gd f) (hl : f.length = n + 1) (hp : PrI p) (mg : (PZ.of g).Mon m) (m1 : 1 ≤ m) (hm : g.length = m + 1) (hu : PZ.of f = u * PZ.of g + r) (lr : r.Bd m) (hr : r.Dvp (p * p)) (hnm : m ≤ n)
    (hd : Dvm p (PZ.of g ^ 2) (PZ.of f)) (hme : m_measure f = ok size) : p * p ∣ size := by
  have hp1 := hp.1
  have hn4 := hg.len
  have gl : co g m = 1 := mg.top
  have rp : r.Dvp p := fun t => by
    obtain ⟨k, hk⟩ := hr t
    exact ⟨p * k, by rw [hk]; grind⟩
  -- u is g k modulo p
  obtain ⟨K, c, hK⟩ := hd
  have huk : Eqp p (u) (PZ.of g * K) := by
    rw [Eqp.iff]
    obtain ⟨c2, hc2⟩ := PZ.dvp_iff.mp rp
    have hz : ((u - PZ.of g * K) * PZ.of g).Dvp p := PZ.dvp_iff.mpr ⟨c - c2, by
      have : PZ.of g ^ 2 = PZ.of g * PZ.of g := by grind
      rw [this] at hK
      grind⟩
    rcases PZ.dvp_mul hp hz with z | z
    · exact z
    · have := z m
      rw [mg.top] at this
      have := Int.le_of_dvd (by decide) this
      omega
  have hfm : (PZ.of f).Mon n := hg.mon' hl
  have hgu : Dvm p (PZ.of g) (u) := Dvm.congr huk.symm Dvm.left
  have mu : u.Mon (n - m) := mon_quot mg hfm hnm hu lr
  have h2m : 2 * m ≤ n := by
    apply Classical.byContradiction
    intro z
    have := dvm_low mg (mu.bd.mono (by omega)) hgu (n - m)
    rw [mu.top] at this
    have := Int.le_of_dvd (by decide) this
    omega
  by_cases hm1 : m = 1
  · subst hm1
    obtain ⟨K1, T0, ek, bt⟩ := PZ.mdiv mg u
    have mk := mon_quot mg mu (by omega) ek bt
    generalize hk1 : K1.row (n - 1 - 1 + 1) = k1
    generalize ht0 : T0.row 1 = t0
    have lk : k1.length = n - 1 - 1 + 1 := by rw [← hk1]; exact PZ.row_len _ _
    have lt : t0.length ≤ 1 := by rw [← ht0]; exact Nat.le_of_eq (PZ.row_len _ _)
    have ek1 : PZ.of k1 = K1 := by rw [← hk1]; exact PZ.of_row mk.bd
    have et0 : PZ.of t0 = T0 := by rw [← ht0]; exact PZ.of_row bt
    clear ht0
    rw [← ek1, ← et0] at ek
    rw [← ek1] at mk
    have tk : co k1 (n - 1 - 1) = 1 := mk.top
    generalize hr1 : r.row 1 = r1
    have lr1 : r1.length ≤ 1 := by rw [← hr1]; exact Nat.le_of_eq (PZ.row_len _ _)
    have er1 : PZ.of r1 = r := by rw [← hr1]; exact PZ.of_row lr
    have ht0 : p ∣ co t0 0 := by
      have h1 : Dvm p (PZ.of g) (PZ.of t0) := by
        have : PZ.of t0 = u - PZ.of k1 * PZ.of g := by rw [ek]; grind
        rw [this]
        exact hgu.sub Dvm.right
      exact dvm_low mg (fun t ht => by rw [PZ.co_of, co_out (by omega)]) h1 0
    have hr0 : p * p ∣ co r1 0 := by have := hr 0; rwa [← er1] at this
    rw [ek, ← er1, of_short1 lr1, of_short1 lt] at hu
    generalize co r1 0 = S at hu hr0
    generalize co t0 0 = T at hu ht0
    obtain ⟨g0, g1, rfl⟩ := len2 hm
    have : g1 = 1 := gl
    subst this
    have hco : ∀ t, co f t = co (addP (mulP (addP (mulP k1 [g0, 1]) [T]) [g0, 1]) [S]) t := fun t => congrArg (fun x => PZ.co x t) hu
    rcases hg.cases with ⟨a, b, rfl, ha, hb⟩ | ⟨a, b, c, rfl, ha, hb, hc⟩ | ⟨a, b, c, d, rfl, ha, hb, hc, hd'⟩
    · have hn : n = 2 := by simpa using hl.symm
      subst hn
      obtain ⟨k0, rfl⟩ := len1 lk
      have : k0 = 1 := tk
      subst this
      rw [meas2 ha hb] at hme
      cases hme
      have c0 := hco 0
      have c1 := hco 1
      simp [mulP, addP, scaleP, co] at c0 c1
      exact dc2_lin (g := g0) (T := T) (S := S) (by grind) (by grind) ht0 hr0
    · have hn : n = 3 := by simpa using hl.symm
      subst hn
      obtain ⟨k0, k2, rfl⟩ := len2 lk
      have : k2 = 1 := tk
      subst this
      rw [meas3 ha hb hc] at hme
      cases hme
      have c0 := hco 0
      have c1 := hco 1
      have c2 := hco 2
      simp [mulP, addP, scaleP, co] at c0 c1 c2
      exact dc3_lin (g := g0) (u := k0) (T := T) (S := S) (by grind) (by grind) (by grind) ht0 hr0
    · have hn : n = 4 := by simpa using hl.symm
      subst hn
      obtain ⟨k0, k2, k3, rfl⟩ := len3 lk
      have : k3 = 1 := tk
      subst this
      rw [meas4' ha hb hc hd'] at hme
      cases hme
      have c0 := hco 0
      have c1 := hco 1
      have c2 := hco 2
      have c3 := hco 3
      simp [mulP, addP, scaleP, co] at c0 c1 c2 c3
      exact dc4_lin (g := g0) (u := k2) (v := k0) (T := T) (S := S) (by grind) (by grind) (by grind) (by grind) ht0 hr0
  · have hm2 : m = 2 := by omega
    have hn : n = 4 := by omega
    subst hm2; subst hn
    obtain ⟨g0, g1, g2, rfl⟩ := len3 hm
    have : g2 = 1 := gl
    subst this
    generalize hul : u.row 3 = ul
    have lu : ul.length = 3 := by rw [← hul]; exact PZ.row_len _ _
    have eu : PZ.of ul = u := by rw [← hul]; exact PZ.of_row mu.bd
    clear hul
    subst eu
    have tu : co ul 2 = 1 := mu.top
    generalize hr1 : r.row 2 = r1
    have lr1 : r1.length ≤ 2 := by rw [← hr1]; exact Nat.le_of_eq (PZ.row_len _ _)
    have er1 : PZ.of r1 = r := by rw [← hr1]; exact PZ.of_row lr
    clear hr1
    subst er1
    obtain ⟨u0, u1, u2, rfl⟩ := len3 lu
    have : u2 = 1 := tu
    subst this
    have hug := mon_dvm mg mu hgu hp1
    have hU : p ∣ u0 - g0 := by
      have := Eqp.iff.mp hug.symm 0
      rwa [PZ.co_sub] at this
    have hV : p ∣ u1 - g1 := by
      have := Eqp.iff.mp hug.symm 1
      rwa [PZ.co_sub] at this
    have hr0 : p * p ∣ co r1 0 := hr 0
    have hr1 : p * p ∣ co r1 1 := hr 1
    rw [of_short2 lr1] at hu
    generalize co r1 0 = S at hu hr0
    generalize co r1 1 = R at hu hr1
    have hco : ∀ t, co f t = co (addP (mulP [u0, u1, 1] [g0, g1, 1]) [S, R]) t := fun t => congrArg (fun x => PZ.co x t) hu
    rcases hg.cases with ⟨a, b, rfl, ha, hb⟩ | ⟨a, b, c, rfl, ha, hb, hc⟩ | ⟨a, b, c, d, rfl, ha, hb, hc, hd'⟩
    · simp at hl
    · simp at hl
    · rw [meas4' ha hb hc hd'] at hme
      cases hme
      have c0 := hco 0
      have c1 := hco 1
      have c2 := hco 2
      have c3 := hco 3
      simp [mulP, addP, scaleP, co] at c0 c1 c2 c3
      exact dc4_quad (g := g0) (h := g1) (U := u0 - g0) (V := u1 - g1) (S := S) (R := R) (by grind) (by grind) (by grind) (by grind) hU hV hr0 hr1
/-- a made ring is whole at each prime -/
theorem whole_any {r : Rg} (hr : RgG r) {F : NF} {n : Nat} (hF : NfOf F r.1 n) (hl : r.1.length = n + 1) (h1 : co r.1 n = 1) (h2 : 2 ≤ n) (h4 : n ≤ 4) (hz : r.2.2 ≠ 0) {p : Int} (hp : PrI p) : WholeAt F p := by
  by_cases h : p < 200
  · exact whole_of hr hF hl h1 h2 h4 (prI_small hp h)
  have hi := invP_any hp
  obtain ⟨_, rok, _, hme, _⟩ := ring_inv hr.made
  have hfm := rok.gd.mon' hl
  obtain ⟨l, g1, g2, g3⟩ := fac_ex hi n n _ (Nat.le_refl _) hfm
  refine ⟨hi, l, fun x hx => ⟨(g1 x hx).1, (g1 x hx).2, fun h2e => ?_⟩, g2, by rw [← hF.f]; exact g3⟩
  obtain ⟨ix, _⟩ := g1 x hx
  obtain ⟨k, hk⟩ := prodT_mem hx
  have hdv : Dvm p (x.1 ^ 2) (PZ.of r.1) := by
    refine Dvm.congr g3.symm ?_
    rw [hk]
    obtain ⟨j, hj⟩ : ∃ j, x.2.2 = j + 2 := ⟨x.2.2 - 2, by omega⟩
    rw [hj, Lean.Grind.Semiring.pow_succ, Lean.Grind.Semiring.pow_succ]
    exact ⟨x.1 ^ j * k, 0, by grind⟩
  have hdn : x.2.1 ≤ n := by
    apply Classical.byContradiction
    intro z
    have hd1 : Dvm p x.1 (PZ.of r.1) := Dvm.trans ⟨x.1, 0, by grind⟩ hdv
    have := dvm_low ix.mon (hfm.bd.mono (by omega)) hd1 n
    rw [hfm.top] at this
    have := Int.le_of_dvd (by decide) this
    have := hp.1
    omega
  obtain ⟨q, s, e, b⟩ := PZ.mdiv ix.mon (PZ.of r.1)
  refine ⟨q, s, by rw [← hF.f]; exact e, b, fun hz2 => ?_⟩
  have ex : PZ.of (x.1.row (x.2.1 + 1)) = x.1 := PZ.of_row ix.mon.bd
  have := double_sizeG (g := x.1.row (x.2.1 + 1)) rok.gd hl hp (by rw [ex]; exact ix.mon) ix.pos (PZ.row_len _ _) (by rw [ex]; exact e) b hz2 hdn (by rw [ex]; exact hdv) hme
  obtain ⟨w, hw⟩ := this
  have hs := rok.sm
  have hw0 : w ≠ 0 := fun z => hz (by rw [hw, z, Int.mul_zero])
  have h3 : 40000 ≤ p * p := Int.le_trans (by decide) (Int.mul_le_mul (show (200 : Int) ≤ p by omega) (show (200 : Int) ≤ p by omega) (by decide) (by omega))
  have h4 : (p * p).natAbs * w.natAbs = r.2.2.natAbs := by rw [hw, Int.natAbs_mul (p * p)]
  have h5 : (p * p).natAbs * 1 ≤ (p * p).natAbs * w.natAbs := Nat.mul_le_mul_left _ (by omega)
  omega
end T
set_option maxRecDepth 100000
set_option maxHeartbeats 8000000
namespace T
open PySem PySem.Spec PyProof.Rows L2
/-! ### a number that brings a lattice into a multiple of it -/
section
variable {α : Type} [Lean.Grind.CommRing α]
theorem ch2 (w a b c d x y : α) (h0 : w * x = a * x + b * y) (h1 : w * y = c * x + d * y) : (w * w - (a + d) * w + (a * d - b * c)) * x = 0 := by
  have e : (w * w - (a + d) * w + (a * d - b * c)) * x = (w - d) * (w * x - (a * x + b * y)) + b * (w * y - (c * x + d * y)) := by grind
  rw [e, h0, h1]; grind
def m2 (a b c d : α) : α := a * d - b * c
def m3 (a b c d e f g h i : α) : α := a * m2 e f h i - b * m2 d f g i + c * m2 d e g h
theorem ch3 (w a b c d e f g h i x y z : α) (h0 : w * x = a * x + b * y + c * z) (h1 : w * y = d * x + e * y + f * z) (h2 : w * z = g * x + h * y + i * z) :
    (w * (w * (w + -(a + e + i)) + (m2 a b d e + m2 a c g i + m2 e f h i)) + -(m3 a b c d e f g h i)) * x = 0 := by
  have k : (w * (w * (w + -(a + e + i)) + (m2 a b d e + m2 a c g i + m2 e f h i)) + -(m3 a b c d e f g h i)) * x = ((w - e) * (w - i) - f * h) * (w * x - (a * x + b * y + c * z)) + (b * (w - i) + c * h) * (w * y - (d * x + e * y + f * z)) + (b * f + c * (w - e)) * (w * z - (g * x + h * y + i * z)) := by
    unfold m3 m2; grind
  rw [k, h0, h1, h2]; grind
def m4 (a b c d e f g h i j k l m n o p : α) : α := a * m3 f g h j k l n o p - b * m3 e g h i k l m o p + c * m3 e f h i j l m n p - d * m3 e f g i j k m n o
theorem ch4 (w a b c d e f g h i j k l m n o p x y z v : α) (h0 : w * x = a * x + b * y + c * z + d * v) (h1 : w * y = e * x + f * y + g * z + h * v) (h2 : w * z = i * x + j * y + k * z + l * v) (h3 : w * v = m * x + n * y + o * z + p * v) :
    (w * (w * (w * (w + -(a + f + k + p)) + (m2 a b e f + m2 a c i k + m2 a d m p + m2 f g j k + m2 f h n p + m2 k l o p)) + -(m3 a b c e f g i j k + m3 a b d e f h m n p + m3 a c d i k l m o p + m3 f g h j k l n o p)) + m4 a b c d e f g h i j k l m n o p) * x = 0 := by
  have q : (w * (w * (w * (w + -(a + f + k + p)) + (m2 a b e f + m2 a c i k + m2 a d m p + m2 f g j k + m2 f h n p + m2 k l o p)) + -(m3 a b c e f g i j k + m3 a b d e f h m n p + m3 a c d i k l m o p + m3 f g h j k l n o p)) + m4 a b c d e f g h i j k l m n o p) * x
      = m3 (w - f) (-g) (-h) (-j) (w - k) (-l) (-n) (-o) (w - p) * (w * x - (a * x + b * y + c * z + d * v))
      - m3 (-b) (-c) (-d) (-j) (w - k) (-l) (-n) (-o) (w - p) * (w * y - (e * x + f * y + g * z + h * v))
      + m3 (-b) (-c) (-d) (w - f) (-g) (-h) (-n) (-o) (w - p) * (w * z - (i * x + j * y + k * z + l * v))
      - m3 (-b) (-c) (-d) (w - f) (-g) (-h) (-j) (w - k) (-l) * (w * v - (m * x + n * y + o * z + p * v)) := by
    unfold m4 m3 m2; grind
  rw [q, h0, h1, h2, h3]; grind
end
section
variable {F : NF}
theorem ic_add (a b : Int) : ((a + b : Int) : F.R) = (a : F.R) + (b : F.R) := by grind
theorem ic_mul (a b : Int) : ((a * b : Int) : F.R) = (a : F.R) * (b : F.R) := by grind
theorem ic_neg (a : Int) : ((-a : Int) : F.R) = -(a : F.R) := by grind
theorem ic_sub (a b : Int) : ((a - b : Int) : F.R) = (a : F.R) - (b : F.R) := by grind
theorem ic_m2 (a b c d : Int) : ((m2 a b c d : Int) : F.R) = m2 (a : F.R) b c d := by unfold m2; simp only [ic_sub, ic_mul]
theorem ic_m3 (a b c d e f g h i : Int) : ((m3 a b c d e f g h i : Int) : F.R) = m3 (a : F.R) b c d e f g h i := by unfold m3; simp only [ic_sub, ic_mul, ic_add, ic_m2]
theorem ic_m4 (a b c d e f g h i j k l m n o p : Int) : ((m4 a b c d e f g h i j k l m n o p : Int) : F.R) = m4 (a : F.R) b c d e f g h i j k l m n o p := by unfold m4; simp only [ic_sub, ic_mul, ic_add, ic_m3]
theorem m2_scale (q a b c d : Int) : m2 (q * a) (q * b) (q * c) (q * d) = q ^ 2 * m2 a b c d := by unfold m2; grind
theorem m3_scale (q a b c d e f g h i : Int) : m3 (q * a) (q * b) (q * c) (q * d) (q * e) (q * f) (q * g) (q * h) (q * i) = q ^ 3 * m3 a b c d e f g h i := by unfold m3 m2; grind
theorem m4_scale (q a b c d e f g h i j k l m n o p : Int) : m4 (q * a) (q * b) (q * c) (q * d) (q * e) (q * f) (q * g) (q * h) (q * i) (q * j) (q * k) (q * l) (q * m) (q * n) (q * o) (q * p) = q ^ 4 * m4 a b c d e f g h i j k l m n o p := by unfold m4 m3 m2; grind
theorem sh_ch (hi : F.Irr) (h2 : 2 ≤ F.n) (h4 : F.n ≤ 4) {B : Nat → F.R} (hB : Tb F B) {p : Int} {w : F.R} {M : Nat → Nat → Int} (h : ∀ i, i < F.n → w * B i = (p : F.R) * lc (M i) B F.n) : ∃ O, Fall p O ∧ 2 ≤ O.length ∧ hev O w = 0 := by
  have b0 : B 0 ≠ 0 := fun z => by
    have := hB.pos 0 (by omega)
    rw [z, NF.co_zero] at this; omega
  have nz : ∀ {a : F.R}, a * B 0 = 0 → a = 0 := fun e => (NF.domain hi e).resolve_right b0
  have hn : F.n = 2 ∨ F.n = 3 ∨ F.n = 4 := by omega
  rcases hn with e | e | e
  · rw [e] at h
    have r0 := h 0 (by omega)
    have r1 := h 1 (by omega)
    simp only [lc] at r0 r1
    have k := nz (ch2 w ((p * M 0 0 : Int) : F.R) ((p * M 0 1 : Int) : F.R) ((p * M 1 0 : Int) : F.R) ((p * M 1 1 : Int) : F.R) (B 0) (B 1) (by rw [r0]; simp only [ic_mul]; grind) (by rw [r1]; simp only [ic_mul]; grind))
    refine ⟨[p ^ 2 * m2 (M 0 0) (M 0 1) (M 1 0) (M 1 1), p ^ 1 * -(M 0 0 + M 1 1), 1], ⟨⟨_, rfl⟩, ⟨_, rfl⟩, rfl⟩, by simp, ?_⟩
    rw [← k, ← m2_scale]
    clear k r0 r1 h
    simp only [hev, ic_m2, m2, ic_mul, ic_neg, ic_add, ic_sub]
    grind
  · rw [e] at h
    have r0 := h 0 (by omega)
    have r1 := h 1 (by omega)
    have r2 := h 2 (by omega)
    simp only [lc] at r0 r1 r2
    have k := nz (ch3 w ((p * M 0 0 : Int) : F.R) ((p * M 0 1 : Int) : F.R) ((p * M 0 2 : Int) : F.R) ((p * M 1 0 : Int) : F.R) ((p * M 1 1 : Int) : F.R) ((p * M 1 2 : Int) : F.R) ((p * M 2 0 : Int) : F.R) ((p * M 2 1 : Int) : F.R) ((p * M 2 2 : Int) : F.R) (B 0) (B 1) (B 2)
      (by rw [r0]; simp only [ic_mul]; grind) (by rw [r1]; simp only [ic_mul]; grind) (by rw [r2]; simp only [ic_mul]; grind))
    refine ⟨[p ^ 3 * -m3 (M 0 0) (M 0 1) (M 0 2) (M 1 0) (M 1 1) (M 1 2) (M 2 0) (M 2 1) (M 2 2), p ^ 2 * (m2 (M 0 0) (M 0 1) (M 1 0) (M 1 1) + m2 (M 0 0) (M 0 2) (M 2 0) (M 2 2) + m2 (M 1 1) (M 1 2) (M 2 1) (M 2 2)), p ^ 1 * -(M 0 0 + M 1 1 + M 2 2), 1], ⟨⟨_, rfl⟩, ⟨_, rfl⟩, ⟨_, rfl⟩, rfl⟩, by simp, ?_⟩
    rw [← k, Int.mul_neg, ← m3_scale, Int.mul_add, Int.mul_add, ← m2_scale, ← m2_scale, ← m2_scale]
    clear k r0 r1 r2 h
    simp only [hev, ic_m3, ic_m2, ic_neg, ic_add, ic_mul]
    grind
  · rw [e] at h
    have r0 := h 0 (by omega)
    have r1 := h 1 (by omega)
    have r2 := h 2 (by omega)
    have r3 := h 3 (by omega)
    simp only [lc] at r0 r1 r2 r3
    have k := nz (ch4 w ((p * M 0 0 : Int) : F.R) ((p * M 0 1 : Int) : F.R) ((p * M 0 2 : Int) : F.R) ((p * M 0 3 : Int) : F.R) ((p * M 1 0 : Int) : F.R) ((p * M 1 1 : Int) : F.R) ((p * M 1 2 : Int) : F.R) ((p * M 1 3 : Int) : F.R) ((p * M 2 0 : Int) : F.R) ((p * M 2 1 : Int) : F.R) ((p * M 2 2 : Int) : F.R) ((p * M 2 3 : Int) : F.R) ((p * M 3 0 : Int) : F.R) ((p * M 3 1 : Int) : F.R) ((p * M 3 2 : Int) : F.R) ((p * M 3 3 : Int) : F.R) (B 0) (B 1) (B 2) (B 3)
      (by rw [r0]; simp only [ic_mul]; grind) (by rw [r1]; simp only [ic_mul]; grind) (by rw [r2]; simp only [ic_mul]; grind) (by rw [r3]; simp only [ic_mul]; grind))
    refine ⟨[p ^ 4 * m4 (M 0 0) (M 0 1) (M 0 2) (M 0 3) (M 1 0) (M 1 1) (M 1 2) (M 1 3) (M 2 0) (M 2 1) (M 2 2) (M 2 3) (M 3 0) (M 3 1) (M 3 2) (M 3 3),
      p ^ 3 * -(m3 (M 0 0) (M 0 1) (M 0 2) (M 1 0) (M 1 1) (M 1 2) (M 2 0) (M 2 1) (M 2 2) + m3 (M 0 0) (M 0 1) (M 0 3) (M 1 0) (M 1 1) (M 1 3) (M 3 0) (M 3 1) (M 3 3) + m3 (M 0 0) (M 0 2) (M 0 3) (M 2 0) (M 2 2) (M 2 3) (M 3 0) (M 3 2) (M 3 3) + m3 (M 1 1) (M 1 2) (M 1 3) (M 2 1) (M 2 2) (M 2 3) (M 3 1) (M 3 2) (M 3 3)),
      p ^ 2 * (m2 (M 0 0) (M 0 1) (M 1 0) (M 1 1) + m2 (M 0 0) (M 0 2) (M 2 0) (M 2 2) + m2 (M 0 0) (M 0 3) (M 3 0) (M 3 3) + m2 (M 1 1) (M 1 2) (M 2 1) (M 2 2) + m2 (M 1 1) (M 1 3) (M 3 1) (M 3 3) + m2 (M 2 2) (M 2 3) (M 3 2) (M 3 3)), p ^ 1 * -(M 0 0 + M 1 1 + M 2 2 + M 3 3), 1], ⟨⟨_, rfl⟩, ⟨_, rfl⟩, ⟨_, rfl⟩, ⟨_, rfl⟩, rfl⟩, by simp, ?_⟩
    rw [← k, Int.mul_neg, ← m4_scale, Int.mul_add, Int.mul_add, Int.mul_add, ← m3_scale, ← m3_scale, ← m3_scale, ← m3_scale, Int.mul_add, Int.mul_add, Int.mul_add, Int.mul_add, Int.mul_add, ← m2_scale, ← m2_scale, ← m2_scale, ← m2_scale, ← m2_scale, ← m2_scale]
    clear k r0 r1 r2 r3 h
    simp only [hev, ic_m4, ic_m3, ic_m2, ic_neg, ic_add, ic_mul]
    grind
/-- a ring that is whole at each prime -/
structure Whole (F : NF) : Prop where
  irr : F.Irr
  two : 2 ≤ F.n
  four : F.n ≤ 4
  at_ : ∀ p, PrI p → WholeAt F p
theorem Whole.shrink (hw : Whole F) {L : F.R → Prop} (hL : IsSub L) {m0 : Int} (hm0 : 0 < m0) (h0 : ∀ x, L ((m0 : F.R) * x)) : ∀ (N : Nat) (M : Int), M.natAbs ≤ N → M ≠ 0 → ∀ w : F.R, (∀ y, L y → ∃ y', L y' ∧ w * y = (M : F.R) * y') → NF.Dvp M w
  | 0, M, hN, hM, _, _ => by omega
  | N + 1, M, hN, hM, w, h => by
    by_cases h1 : M.natAbs = 1
    · intro t; exact Int.natAbs_dvd_natAbs.mp (by rw [h1]; exact Nat.one_dvd _)
    obtain ⟨p, hp, M', rfl⟩ := prime_div hM h1
    obtain ⟨B, hB, hLB⟩ := tb_ex hL hm0 fun i _ => h0 _
    have rows : ∀ i, ∃ a : Nat → Int, i < F.n → w * B i = (p : F.R) * lc a B F.n := fun i => by
      by_cases hi : i < F.n
      · obtain ⟨y', hy', e⟩ := h (B i) ((hLB _).mpr (Sp.of ⟨i, hi, rfl⟩))
        obtain ⟨a, ha⟩ := Sp.lc ((hLB _).mp (hL.int hy' M'))
        exact ⟨a, fun _ => by rw [e, ← ha, ic_mul]; grind⟩
      · exact ⟨fun _ => 0, fun z => absurd z hi⟩
    obtain ⟨O, h3, h4, h5⟩ := sh_ch hw.irr hw.two hw.four hB.toTb (p := p) (w := w) (M := fun i => Classical.choose (rows i)) (fun i hi => Classical.choose_spec (rows i) hi)
    have hd := whole_at hw.irr (hw.at_ p hp) h3 h4 h5
    obtain ⟨w', rfl⟩ := NF.dvp_iff.mp hd
    have p1 := hp.1
    have hM' : M' ≠ 0 := fun z => hM (by rw [z, Int.mul_zero])
    have hlt : M'.natAbs < (p * M').natAbs := by
      rw [Int.natAbs_mul]
      have : 2 * M'.natAbs ≤ p.natAbs * M'.natAbs := Nat.mul_le_mul_right _ (by omega)
      omega
    have hd' := hw.shrink hL hm0 h0 N M' (by omega) hM' w' fun y hy => by
      obtain ⟨y', hy', e⟩ := h y hy
      refine ⟨y', hy', NF.int_cancel (c := p) (by omega) ?_⟩
      rw [show (p : F.R) * (w' * y) = (p : F.R) * w' * y by grind, e, ic_mul]; grind
    obtain ⟨w'', rfl⟩ := NF.dvp_iff.mp hd'
    exact NF.dvp_iff.mpr ⟨w'', by rw [ic_mul]; grind⟩
/-- an ideal times its dual is all multiples of m -/
theorem Whole.inv (hw : Whole F) {J : F.R → Prop} (hJ : IsId J) {m : Int} (hm : 0 < m) (hmJ : J (m : F.R)) (z : F.R) : Pr J (Du m J) z ↔ NF.Dvp m z := by
  have hK : IsId (Pr J (Du m J)) := Pr.id hJ
  constructor
  · exact Pr.le (mm_is m).toIsSub fun x y hx hy => hy x hx
  · intro hz
    obtain ⟨x, rfl⟩ := NF.dvp_iff.mp hz
    have hmm : 0 < m * m := Int.mul_pos hm hm
    refine du_du hK hmm (by rw [ic_mul]; exact Pr.of hmJ (Du.m m J)) fun w hw' => ?_
    have hwm : NF.Dvp m w := hw.shrink (Du.is m J).toIsSub hm (fun x => (Du.is m J).ints (Du.m m J) x) m.natAbs m (Nat.le_refl _) (by omega) w fun y hy => by
      have h1 := hw' ((m : F.R) * y) (Pr.of hmJ hy)
      obtain ⟨y', e⟩ := NF.dvp_iff.mp h1
      have e2 : w * y = (m : F.R) * y' := NF.int_cancel (c := m) (by omega) (by
        rw [show (m : F.R) * (w * y) = (m : F.R) * y * w by grind, e, ic_mul]; grind)
      refine ⟨y', fun x hx => ?_, e2⟩
      have h2 := hw' (x * y) (Pr.of hx hy)
      obtain ⟨u, e3⟩ := NF.dvp_iff.mp h2
      refine NF.dvp_iff.mpr ⟨u, NF.int_cancel (c := m) (by omega) ?_⟩
      rw [show (m : F.R) * ((m : F.R) * u) = ((m * m : Int) : F.R) * u by rw [ic_mul]; grind, ← e3, show x * y * w = x * (w * y) by grind, e2]; grind
    obtain ⟨v, rfl⟩ := NF.dvp_iff.mp hwm
    exact NF.dvp_iff.mpr ⟨v * x, by rw [ic_mul]; grind⟩
end
end T
set_option maxRecDepth 100000
set_option maxHeartbeats 4000000
namespace T
open PySem PySem.Spec PyProof.Rows L2
/-! ### the program's stair tables -/
section
variable {F : NF}
theorem NF.co_vecS {l : List Int} (h : l.length ≤ F.n) (t : Nat) : NF.co (F.vec l) t = T.co l t := by
  unfold NF.co NF.vec
  rw [NF.lo_mk, PZ.co_of]
  exact (PZ.of_bd l).mono h
end
/-- the greatest of the sizes of places -/
def Bn (K : Nat) (l : List Int) : Prop := ∀ t, (co l t).natAbs ≤ K
theorem Bn.mem {K : Nat} {l : List Int} (h : Bn K l) : ∀ x ∈ l, x.natAbs ≤ K := fun x hx => by
  obtain ⟨i, hi⟩ := List.getElem?_of_mem hx
  have := h i
  rwa [co_some hi] at this
theorem co_mapR (g : Nat → Int) (n t : Nat) : co ((List.range n).map g) t = if t < n then g t else 0 := co_mapRange g n t
/-- one turn of Euclid's way with rows -/
def turnR (i : Nat) (left low : List Int) : List Int := (List.range (i + 1)).map fun j => co low j - (co low i).fdiv (co left i) * co left j
theorem fdiv_facts {a b : Int} (hb : b ≠ 0) : (0 ≤ b * (a - a.fdiv b * b)) ∧ (a - a.fdiv b * b).natAbs < b.natAbs ∧ (a.fdiv b).natAbs ≤ a.natAbs ∧ (0 ≤ a * b → b.natAbs * (a.fdiv b).natAbs + (a - a.fdiv b * b).natAbs ≤ a.natAbs) ∧ b.natAbs * (a.fdiv b).natAbs + (a - a.fdiv b * b).natAbs ≤ a.natAbs + 2 * b.natAbs := by
  have pos : ∀ {a b : Int}, 0 < b → (0 ≤ (a - a.fdiv b * b)) ∧ (a - a.fdiv b * b) < b ∧ (a.fdiv b).natAbs ≤ a.natAbs ∧ (0 ≤ a → b * (a.fdiv b).natAbs + (a - a.fdiv b * b) ≤ a) ∧ b * (a.fdiv b).natAbs + (a - a.fdiv b * b) ≤ a.natAbs + 2 * b := by
    intro a b h
    have h1 := Int.mul_fdiv_add_fmod a b
    have h2 := Int.fmod_nonneg_of_pos a h
    have h3 := Int.fmod_lt_of_pos a h
    have e : a - a.fdiv b * b = a.fmod b := by rw [Int.mul_comm]; omega
    rw [e]
    have h4 : (a.fdiv b).natAbs ≤ a.natAbs := by rw [Int.fdiv_eq_ediv_of_nonneg _ (by omega)]; exact ediv_abs h
    generalize a.fdiv b = q at *
    generalize a.fmod b = r at *
    have hq : 0 ≤ q → b * (q.natAbs : Int) = b * q := fun z => by rw [Int.natAbs_of_nonneg z]
    have hq' : q ≤ 0 → b * (q.natAbs : Int) = -(b * q) := fun z => by rw [Int.ofNat_natAbs_of_nonpos z]; rw [Int.mul_neg]
    refine ⟨h2, h3, h4, fun ha => ?_, ?_⟩
    · have : 0 ≤ q := by
        apply Classical.byContradiction
        intro z
        have := Int.mul_le_mul_of_nonneg_left (show q ≤ -1 by omega) (show 0 ≤ b by omega)
        omega
      rw [hq this]; omega
    · rcases Int.le_total 0 q with z | z
      · rw [hq z]; omega
      · rw [hq' z]; omega
  rcases Int.lt_or_gt_of_ne hb with h | h
  · obtain ⟨p1, p2, p3, p4, p5⟩ := pos (a := -a) (b := -b) (by omega)
    rw [Int.neg_fdiv_neg] at *
    generalize a.fdiv b = q at *
    have e : -a - q * -b = -(a - q * b) := by rw [Int.mul_neg]; omega
    rw [e] at p1 p2 p4 p5
    have e2 : b * (a - q * b) = -b * -(a - q * b) := by rw [Int.neg_mul_neg]
    have e3 : (b.natAbs : Int) = -b := by omega
    generalize hr : a - q * b = r at *
    refine ⟨by rw [e2]; exact Int.mul_nonneg (by omega) p1, by omega, by omega, fun hab => ?_, ?_⟩
    · have ha : a ≤ 0 := by
        apply Classical.byContradiction
        intro z
        have := Int.mul_lt_mul_of_pos_left h (show 0 < a by omega)
        omega
      have := p4 (by omega)
      have e4 : ((b.natAbs * q.natAbs : Nat) : Int) = -b * (q.natAbs : Int) := by rw [Int.natCast_mul, e3]
      omega
    · have e4 : ((b.natAbs * q.natAbs : Nat) : Int) = -b * (q.natAbs : Int) := by rw [Int.natCast_mul, e3]
      omega
  · obtain ⟨p1, p2, p3, p4, p5⟩ := pos (a := a) (b := b) h
    generalize a.fdiv b = q at *
    generalize a - q * b = r at *
    have e3 : (b.natAbs : Int) = b := by omega
    have e4 : ((b.natAbs * q.natAbs : Nat) : Int) = b * (q.natAbs : Int) := by rw [Int.natCast_mul, e3]
    refine ⟨Int.mul_nonneg (by omega) p1, by omega, p3, fun hab => ?_, by omega⟩
    have ha : 0 ≤ a := by
      apply Classical.byContradiction
      intro z
      have := Int.mul_lt_mul_of_pos_right (show a < 0 by omega) h
      omega
    have := p4 ha
    omega
theorem low_le {a b L l K : Nat} (ha : 1 ≤ a) (h : a * L + b * l ≤ K) : L ≤ K := by
  have := Nat.mul_le_mul_right L ha
  omega
section
variable {F : NF}
structure EuI (i K : Nat) (S0 : (F.R → Prop) → Prop) (s : List Int × List Int) : Prop where
  l1 : s.1.length = i + 1
  l2 : s.2.length = i + 1
  nz : co s.2 i ≠ 0
  bl : Bn K s.2
  q : (0 ≤ co s.2 i * co s.1 i ∧ ∀ t, (co s.2 i).natAbs * (co s.1 t).natAbs + (co s.1 i).natAbs * (co s.2 t).natAbs ≤ K) ∨ ∀ t, (co s.2 i).natAbs * (co s.1 t).natAbs + (co s.1 i).natAbs * (co s.2 t).natAbs + 2 * (co s.1 i).natAbs * (co s.1 t).natAbs ≤ K
  sp : ∀ S : F.R → Prop, IsSub S → ((S (F.vec s.2) ∧ S (F.vec s.1)) ↔ S0 S)
theorem EuI.bn1 {i K : Nat} {S0 : (F.R → Prop) → Prop} {s : List Int × List Int} (h : EuI i K S0 s) : Bn K s.1 := fun t => by
  have := h.nz
  rcases h.q with ⟨_, q⟩ | q
  · exact low_le (by omega) (q t)
  · have := q t; exact low_le (a := (co s.2 i).natAbs) (by omega) (Nat.le_trans (Nat.le_add_right _ _) this)
theorem co_turnR (i : Nat) (left low : List Int) (t : Nat) : co (turnR i left low) t = if t < i + 1 then co low t - (co low i).fdiv (co left i) * co left t else 0 := co_mapR _ _ _
theorem EuI.step {i K : Nat} (hi : i < F.n) {S0 : (F.R → Prop) → Prop} {s : List Int × List Int} (h : EuI i K S0 s) (hb : co s.1 i ≠ 0) : EuI (F := F) i K S0 (turnR i s.1 s.2, s.1) ∧ (co (turnR i s.1 s.2) i).natAbs < (co s.1 i).natAbs := by
  obtain ⟨f1, f2, f3, f4, f5⟩ := fdiv_facts (a := co s.2 i) hb
  have ei : co (turnR i s.1 s.2) i = co s.2 i - (co s.2 i).fdiv (co s.1 i) * co s.1 i := by rw [co_turnR, if_pos (by omega)]
  have lt : (turnR i s.1 s.2).length = i + 1 := by unfold turnR; rw [List.length_map, List.length_range]
  refine ⟨⟨lt, h.l1, hb, h.bn1, .inl ⟨by rw [ei]; exact f1, fun t => ?_⟩, fun S hS => ?_⟩, by rw [ei]; exact f2⟩
  · rw [ei]
    have ht : (co (turnR i s.1 s.2) t).natAbs ≤ (co s.2 t).natAbs + ((co s.2 i).fdiv (co s.1 i)).natAbs * (co s.1 t).natAbs := by
      rw [co_turnR]
      by_cases e : t < i + 1
      · rw [if_pos e, ← Int.natAbs_mul]; omega
      · rw [if_neg e]; exact Nat.zero_le _
    have hq := h.q
    show (co s.1 i).natAbs * (co (turnR i s.1 s.2) t).natAbs + (co s.2 i - (co s.2 i).fdiv (co s.1 i) * co s.1 i).natAbs * (co s.1 t).natAbs ≤ K
    generalize (co s.2 i - (co s.2 i).fdiv (co s.1 i) * co s.1 i).natAbs = r at *
    generalize ((co s.2 i).fdiv (co s.1 i)).natAbs = q at *
    generalize (co (turnR i s.1 s.2) t).natAbs = u at *
    have g1 := Nat.mul_le_mul_left (co s.1 i).natAbs ht
    rw [Nat.mul_add, ← Nat.mul_assoc] at g1
    rcases hq with ⟨z1, z2⟩ | z2
    · have g2 := Nat.mul_le_mul_right (co s.1 t).natAbs (f4 z1)
      rw [Nat.add_mul] at g2
      have := z2 t
      omega
    · have g2 := Nat.mul_le_mul_right (co s.1 t).natAbs f5
      rw [Nat.add_mul, Nat.add_mul] at g2
      have := z2 t
      omega
  · refine Iff.trans ?_ (h.sp S hS)
    have e : F.vec (turnR i s.1 s.2) = F.vec s.2 - (((co s.2 i).fdiv (co s.1 i) : Int) : F.R) * F.vec s.1 := NF.ext fun t ht => by
      rw [NF.co_vecS (by omega), NF.co_sub, NF.co_int_mul, NF.co_vecS (by rw [h.l2]; omega), NF.co_vecS (by rw [h.l1]; omega), co_turnR]
      by_cases e : t < i + 1
      · rw [if_pos e]
      · rw [if_neg e, co_out (xs := s.2) (t := t) (by rw [h.l2]; omega), co_out (xs := s.1) (t := t) (by rw [h.l1]; omega), Int.mul_zero]; rfl
    show (S (F.vec s.1) ∧ S (F.vec (turnR i s.1 s.2))) ↔ _
    rw [e]
    constructor
    · rintro ⟨h1, h2⟩
      refine ⟨?_, h1⟩
      have := hS.add h2 (hS.int h1 ((co s.2 i).fdiv (co s.1 i)))
      rwa [show F.vec s.2 - (((co s.2 i).fdiv (co s.1 i) : Int) : F.R) * F.vec s.1 + (((co s.2 i).fdiv (co s.1 i) : Int) : F.R) * F.vec s.1 = F.vec s.2 by grind] at this
    · rintro ⟨h1, h2⟩
      exact ⟨h2, hS.sub h1 (hS.int h2 _)⟩
/-! ### one row more -/
structure Tri (F : NF) (m : Int) (T : List (List Int)) : Prop where
  len : T.length = F.n
  row : ∀ i, i < F.n → (T.getD i []).length = i + 1 ∧ 0 < co (T.getD i []) i ∧ Bn m.natAbs (T.getD i [])
def tv (F : NF) (T : List (List Int)) (i : Nat) : F.R := F.vec (T.getD i [])
theorem Tri.tb {m : Int} {T : List (List Int)} (h : Tri F m T) : Tb F (tv F T) := by
  refine ⟨fun i j hi hj => ?_, fun i hi => ?_⟩
  · obtain ⟨h1, h2, h3⟩ := h.row i hi
    unfold tv
    rw [NF.co_vecS (by omega), co_out (by omega)]
  · obtain ⟨h1, h2, h3⟩ := h.row i hi
    unfold tv
    rw [NF.co_vecS (by omega)]; exact h2
theorem co_snoc {l : List Int} {i : Nat} (hl : l.length = i) (a : Int) (t : Nat) : co (l ++ [a]) t = if t = i then a else co l t := by
  by_cases e : t < i
  · rw [if_neg (by omega)]; unfold co; rw [List.getElem?_append_left (by omega)]
  · by_cases e2 : t = i
    · rw [if_pos e2, e2]; unfold co; rw [List.getElem?_append_right (by omega), hl, Nat.sub_self]; rfl
    · rw [if_neg e2, co_out (by simp; omega), co_out (by omega)]
end
end T
set_option maxRecDepth 100000
set_option maxHeartbeats 4000000
namespace T
open PySem PySem.Spec PyProof.Rows L2
section
variable {F : NF}
/-- a stair table, as told -/
structure StA (F : NF) (A : List (List Int)) : Prop where
  len : A.length = F.n
  rows : ∀ r ∈ A, r.length = F.n
  tb : TbR F (tv F A)
theorem StA.row {A : List (List Int)} (h : StA F A) {i : Nat} (hi : i < F.n) : (A.getD i []).length = F.n := h.rows _ (getD_mem (by rw [h.len]; exact hi))
theorem StA.co {A : List (List Int)} (h : StA F A) {i : Nat} (hi : i < F.n) (t : Nat) : NF.co (tv F A i) t = T.co (A.getD i []) t := NF.co_vec (h.row hi) t
theorem StA.uniq {A B : List (List Int)} (hA : StA F A) (hB : StA F B) (h : ∀ x, Sp (Rw (tv F A)) x ↔ Sp (Rw (tv F B)) x) : A = B := by
  have e := tb_uniq hA.tb hB.tb h
  refine List.ext_getElem (by rw [hA.len, hB.len]) fun i h1 h2 => ?_
  have hi : i < F.n := by rw [← hA.len]; exact h1
  have := e i hi
  unfold tv at this
  have := NF.vec_inj (hA.row hi) (hB.row hi) this
  rwa [List.getD_eq_getElem?_getD, List.getD_eq_getElem?_getD, List.getElem?_eq_getElem h1, List.getElem?_eq_getElem h2] at this
/-! ### places ahead of the corners -/
theorem co_append (a b : List Int) (t : Nat) : co (a ++ b) t = if t < a.length then co a t else co b (t - a.length) := by
  by_cases e : t < a.length
  · rw [if_pos e]; unfold co; rw [List.getElem?_append_left e]
  · rw [if_neg e]; unfold co; rw [List.getElem?_append_right (by omega)]
/-! ### the stair table of some rows -/
end
end T
set_option maxRecDepth 100000
set_option maxHeartbeats 4000000
namespace T
open PySem PySem.Spec PyProof.Rows L2
/-! ### the law's stair tables -/
section
variable {F : NF}
structure LTri (F : NF) (m : Int) (T : List (List Int)) : Prop where
  len : T.length = F.n
  row : ∀ i, i < F.n → (T.getD i []).length = F.n ∧ 0 < co (T.getD i []) i ∧ (∀ t, i < t → co (T.getD i []) t = 0) ∧ ∀ t, 0 ≤ co (T.getD i []) t ∧ co (T.getD i []) t ≤ m
theorem LTri.tb {m : Int} {T : List (List Int)} (h : LTri F m T) : Tb F (tv F T) := by
  refine ⟨fun i j hi hj => ?_, fun i hi => ?_⟩
  · obtain ⟨h1, h2, h3, h4⟩ := h.row i hi
    unfold tv
    rw [NF.co_vecS (by omega)]; exact h3 j hj
  · obtain ⟨h1, h2, h3, h4⟩ := h.row i hi
    unfold tv
    rw [NF.co_vecS (by omega)]; exact h2
/-! ### places ahead of the corners -/
structure Dl (F : NF) (m : Int) (T : List (List Int)) (s : Nat) (R : List (List Int)) : Prop where
  len : R.length = F.n
  row : ∀ i, i < F.n → (R.getD i []).length = F.n ∧ 0 < co (R.getD i []) i ∧ (∀ t, i < t → co (R.getD i []) t = 0) ∧ ∀ t, 0 ≤ co (R.getD i []) t ∧ co (R.getD i []) t ≤ m
  red : ∀ i, i < s → ∀ t, t < i → co (R.getD i []) t < co (R.getD t []) t
  held : ∀ S : F.R → Prop, IsSub S → ((∀ i, i < F.n → S (tv F R i)) ↔ ∀ i, i < F.n → S (tv F T i))
end
end T
set_option maxRecDepth 100000
set_option maxHeartbeats 4000000
namespace T
open PySem PySem.Spec PyProof.Rows L2
/-! ### what two whole numbers share -/
/-! ### a made ring is whole -/
theorem meas_zero {f : List Int} {n : Nat} {F : NF} (hg : Gd f) (hF : NfOf F f n) (hi : F.Irr) (hl : f.length = n + 1) (h1 : co f n = 1) (h2 : 2 ≤ n) (h4 : n ≤ 4) (ha : ∀ x ∈ f, Sm 9 x) {size : Int} (hm : m_measure f = ok size) : size ≠ 0 := by
  rcases hg.cases with ⟨a, b, rfl, ha', hb⟩ | ⟨a, b, c, rfl, ha', hb, hc⟩ | ⟨a, b, c, d, rfl, ha', hb, hc, hd⟩
  · have hn : n = 2 := by simpa using hl.symm
    subst hn
    rw [meas2 ha' hb] at hm
    cases hm
    obtain ⟨U, e, hU, _⟩ := poly_table_is (f := [a, b, 1]) (y := [b, 2]) (n := 2) (a := 9) (b := 12) rfl h1 rfl (by decide) (by decide) ha (fun x hx => Sm.of (A := 1000) (by simp at hx; rcases hx with rfl | rfl <;> omega)) (by decide)
    have nz := norm_ne hF hi hl h1 h2 h4 (y := [b, 2]) rfl hU (fun z => by
      have := hF.eq (x := [b, 2]) (y := List.replicate 2 0) rfl rfl (by rw [z, vec_zero])
      simp at this)
    rw [pt2 ha' hb] at e
    cases e
    rw [dz2] at nz
    intro z
    refine nz ?_
    show b * (b - 2 * b) - (0 - 2 * a) * 2 = 0
    grind
  · have hn : n = 3 := by simpa using hl.symm
    subst hn
    rw [meas3 ha' hb hc] at hm
    cases hm
    obtain ⟨U, e, hU, _⟩ := poly_table_is (f := [a, b, c, 1]) (y := [b, 2 * c, 3]) (n := 3) (a := 9) (b := 12) rfl h1 rfl (by decide) (by decide) ha (fun x hx => Sm.of (A := 1000) (by simp at hx; rcases hx with rfl | rfl | rfl <;> omega)) (by decide)
    have nz := norm_ne hF hi hl h1 h2 h4 (y := [b, 2 * c, 3]) rfl hU (fun z => by
      have := hF.eq (x := [b, 2 * c, 3]) (y := List.replicate 3 0) rfl rfl (by rw [z, vec_zero])
      simp at this)
    obtain ⟨p, q, r, s, t, u, e', hp, hq, hr, hs, ht, hu⟩ := pt3 (x := b) (y := 2 * c) (z := 3) ha' hb hc
    rw [e'] at e
    cases e
    rw [dz3] at nz
    intro z
    refine nz ?_
    show b * (q * u - t * r) - p * ((2 * c) * u - t * 3) + s * ((2 * c) * r - q * 3) = 0
    subst hp; subst hq; subst hr; subst hs; subst ht; subst hu
    grind
  · have hn : n = 4 := by simpa using hl.symm
    subst hn
    rw [meas4' ha' hb hc hd] at hm
    cases hm
    obtain ⟨U, e, hU, _⟩ := poly_table_is (f := [a, b, c, d, 1]) (y := [b, 2 * c, 3 * d, 4]) (n := 4) (a := 9) (b := 12) rfl h1 rfl (by decide) (by decide) ha (fun x hx => Sm.of (A := 2000) (by simp at hx; rcases hx with rfl | rfl | rfl | rfl <;> omega)) (by decide)
    have nz := norm_ne hF hi hl h1 h2 h4 (y := [b, 2 * c, 3 * d, 4]) rfl hU (fun z => by
      have := hF.eq (x := [b, 2 * c, 3 * d, 4]) (y := List.replicate 4 0) rfl rfl (by rw [z, vec_zero])
      simp at this)
    obtain ⟨p, q, r, s, t, u, v, k, l, m', n, o, e', hp, ht, hl', hm, hn, ho⟩ := pt4 (x := b) (y := 2 * c) (z := 3 * d) (w := 4) ha' hb hc hd
    rw [e'] at e
    cases e
    rw [dz4] at nz
    intro z
    refine nz ?_
    obtain ⟨rfl, rfl, rfl, rfl⟩ := hp
    obtain ⟨rfl, rfl, rfl, rfl⟩ := ht
    subst hl'; subst hm; subst hn; subst ho
    unfold D4
    simp only [co, List.getElem?_cons_zero, List.getElem?_cons_succ, Option.getD_some]
    unfold dc4 at z
    clear nz hU e'
    grind
/-- a ring and the quotient that it is -/
structure RF (r : Rg) (F : NF) : Prop where
  good : RgG r
  of : NfOf F r.1 F.n
  irr : F.Irr
  two : 2 ≤ F.n
  four : F.n ≤ 4
  deg : r.2.1 = (F.n : Int)
  len : r.1.length = F.n + 1
  top : co r.1 F.n = 1
  sm : ∀ x ∈ r.1, Sm 9 x
theorem RF.whole {r : Rg} {F : NF} (h : RF r F) : Whole F :=
  ⟨h.irr, h.two, h.four, fun p hp => whole_any h.good h.of h.len h.top h.two h.four (meas_zero h.good.rok.gd h.of h.irr h.len h.top h.two h.four h.sm h.good.rok.me) hp⟩
section
variable {F : NF} {r : Rg}
/-! ### tables of rows of small places -/
abbrev LA (F : NF) (A : List (List Int)) : F.R → Prop := Sp (Rw (tv F A))
/-! ### ideals by their tables -/
structure Idl (F : NF) (A : List (List Int)) : Prop extends StA F A where
  id : IsId (LA F A)
def c0 (A : List (List Int)) : Int := co (A.getD 0 []) 0
theorem StA.mem {A : List (List Int)} (h : StA F A) : ∀ r ∈ A, ∃ i, i < F.n ∧ A.getD i [] = r := fun r hr => by
  obtain ⟨i, hi⟩ := List.getElem?_of_mem hr
  refine ⟨i, ?_, by rw [List.getD_eq_getElem?_getD, hi]; rfl⟩
  have := (List.getElem?_eq_some_iff.mp hi).1
  rwa [h.len] at this
theorem StA.pos {A : List (List Int)} (h : StA F A) {i : Nat} (hi : i < F.n) : 0 < T.co (A.getD i []) i := by rw [← h.co hi]; exact h.tb.pos i hi
theorem StA.up {A : List (List Int)} (h : StA F A) {i j : Nat} (hi : i < F.n) (hj : i < j) : T.co (A.getD i []) j = 0 := by rw [← h.co hi]; exact h.tb.up i j hi hj
theorem StA.red {A : List (List Int)} (h : StA F A) {i j : Nat} (hi : i < F.n) (hj : j < i) : 0 ≤ T.co (A.getD i []) j ∧ T.co (A.getD i []) j < T.co (A.getD j []) j := by
  rw [← h.co hi, ← h.co (by omega)]; exact h.tb.red i j hi hj
theorem StA.c0 {A : List (List Int)} (h : StA F A) : tv F A 0 = ((T.c0 A : Int) : F.R) := by
  have hp := F.pos
  refine NF.ext fun t ht => ?_
  rw [h.co hp, NF.co_intC (by omega)]
  by_cases e : t = 0
  · rw [if_pos e, e]; rfl
  · rw [if_neg e, h.up hp (by omega)]
theorem StA.c0_in {A : List (List Int)} (h : StA F A) : LA F A ((T.c0 A : Int) : F.R) := by rw [← h.c0]; exact Sp.of ⟨0, F.pos, rfl⟩
theorem StA.c0_pos {A : List (List Int)} (h : StA F A) : 0 < T.c0 A := h.pos F.pos
/-- corner 0 divides each whole number that is held -/
theorem StA.c0_dvd {A : List (List Int)} (h : StA F A) {c : Int} (hc : LA F A (c : F.R)) : T.c0 A ∣ c := by
  have := Mem.low (s := 1) (by have := F.pos; omega) (fun t ht => by rw [NF.co_intC (by have := F.pos; omega), if_neg (by omega)]) ((mem_iff h.tb.toTb).mp hc)
  have := this.1
  rwa [h.co F.pos, NF.co_intC (by have := F.pos; omega), if_pos rfl] at this
theorem Idl.ints {A : List (List Int)} (h : Idl F A) (x : F.R) : LA F A ((T.c0 A : Int) * x) := h.id.ints h.c0_in x
theorem Idl.corner {A : List (List Int)} (h : Idl F A) {i : Nat} (hi : i < F.n) : T.co (A.getD i []) i ∣ c0 A := by
  have := Mem.low (s := i + 1) (by omega) (fun t ht => by rw [NF.co_int_mul, NF.co_e hi, if_neg (by omega), Int.mul_zero]) ((mem_iff h.tb.toTb).mp (h.ints (F.e i)))
  have := this.1
  rwa [h.toStA.co hi, NF.co_int_mul, NF.co_e hi, if_pos rfl, Int.mul_one] at this
theorem Idl.bd {A : List (List Int)} (h : Idl F A) : ∀ r ∈ A, ∀ x ∈ r, 0 ≤ x ∧ x ≤ c0 A := fun r hr x hx => by
  obtain ⟨i, hi, rfl⟩ := h.toStA.mem r hr
  obtain ⟨t, ht⟩ := List.getElem?_of_mem hx
  have hx : x = T.co (A.getD i []) t := (co_some ht).symm
  have cp := h.c0_pos
  by_cases e : t < i
  · have := h.toStA.red hi e
    have := Int.le_of_dvd cp (h.corner (i := t) (by omega))
    omega
  · by_cases e2 : t = i
    · have := Int.le_of_dvd cp (h.corner hi)
      have := h.toStA.pos hi
      rw [hx, e2]; omega
    · rw [hx, h.toStA.up hi (by omega)]; omega
theorem Idl.sm {A : List (List Int)} {b : Nat} (h : Idl F A) (hb : Sm b (c0 A)) : ∀ r ∈ A, r.length = F.n ∧ ∀ x ∈ r, Sm b x := fun r hr => ⟨h.rows r hr, fun x hx => by
  have := h.bd r hr x hx
  exact Nat.le_trans (log2_le (by omega)) hb⟩
theorem Idl.sq {A : List (List Int)} {b : Nat} (h : Idl F A) (hb : Sm b (c0 A)) : Sq b F.n A := ⟨h.len, h.sm hb⟩
theorem LA.le {A : List (List Int)} (h : StA F A) {S : F.R → Prop} (hS : IsSub S) (hr : ∀ r ∈ A, S (F.vec r)) {x : F.R} (hx : LA F A x) : S x :=
  Sp.le hS (fun g ⟨i, hi, e⟩ => by rw [e]; exact hr _ (getD_mem (by rw [h.len]; exact hi))) hx
theorem IsId.congr {I J : F.R → Prop} (h : IsId I) (e : ∀ x, I x ↔ J x) : IsId J := by
  rwa [show J = I from funext fun x => propext (e x).symm]
/-- the table of a lattice that is an ideal -/
theorem StA.idl {A : List (List Int)} (h : StA F A) {I : F.R → Prop} (hI : IsId I) (e : ∀ x, LA F A x ↔ I x) : Idl F A := ⟨h, hI.congr fun x => (e x).symm⟩
theorem Idl.eq {A B : List (List Int)} (hA : Idl F A) (hB : Idl F B) (h : ∀ x, LA F A x ↔ LA F B x) : A = B := hA.toStA.uniq hB.toStA h
end
end T
set_option maxRecDepth 100000
set_option maxHeartbeats 4000000
namespace T
open PySem PySem.Spec PyProof.Rows L2
/-! ### products of ideals -/
noncomputable def m_l_known (many1 : Int) (m2 : Int) (r3 : Int) : M (List (List Int)) :=
  (M.bind (ok ([] : List (List Int))) fun rows4 => (M.bind (ok 1) fun far5 => (M.bind (M.bind (prangeI many1) fun xs => loopM (fun (s6 : (List (List Int)) × Int) i7 => (M.bind (prep [0] many1) fun row_here8 => (M.bind (M.bind (ok (decide (i7 = 0))) fun z9 => if z9 = true then (M.bind (pset row_here8 0 m2) fun row_here10 => ok (s6.2, row_here10)) else (M.bind (M.bind (pmul s6.2 r3) fun u12 => (pmod u12 m2)) fun far11 => (M.bind (M.bind (pmod (-far11) m2) fun u14 => (pset row_here8 0 u14)) fun row_here13 => (M.bind (pset row_here13 i7 1) fun row_here15 => ok (far11, row_here15))))) fun s16 => (M.bind (papp s6.1 s16.2) fun rows17 => ok (rows17, s16.1))))) (rows4, far5) xs) fun s18 => (ok s18.1))))
section
variable {F : NF} {r : Rg}
/-- rows that are the products of the rows of two tables -/
structure Ps (F : NF) (k : Nat) (X : List Int → List Int → Prop) (rows : List (List Int)) : Prop where
  row : ∀ w ∈ rows, w.length = F.n ∧ (∀ z ∈ w, Sm k z) ∧ ∃ x y, X x y ∧ F.vec w = F.vec x * F.vec y
  all : ∀ x y, X x y → ∃ w ∈ rows, F.vec w = F.vec x * F.vec y
theorem Ps.congr {k : Nat} {X Y : List Int → List Int → Prop} {rows : List (List Int)} (h : Ps F k X rows) (e : ∀ x y, X x y ↔ Y x y) : Ps F k Y rows := by
  rwa [show Y = X from funext fun x => funext fun y => propext (e x y).symm]
theorem Ps.snoc {k : Nat} {X : List Int → List Int → Prop} {rows : List (List Int)} (h : Ps F k X rows) {x y w : List Int} (hw : w.length = F.n) (hs : ∀ z ∈ w, Sm k z) (e : F.vec w = F.vec x * F.vec y) : Ps F k (fun a b => X a b ∨ (a = x ∧ b = y)) (rows ++ [w]) := by
  refine ⟨fun v hv => ?_, fun a b hab => ?_⟩
  · rcases List.mem_append.mp hv with hv | hv
    · obtain ⟨h1, h2, a, b, h3, h4⟩ := h.row v hv
      exact ⟨h1, h2, a, b, .inl h3, h4⟩
    · rw [List.mem_singleton.mp hv]
      exact ⟨hw, hs, x, y, .inr ⟨rfl, rfl⟩, e⟩
  · rcases hab with hab | ⟨rfl, rfl⟩
    · obtain ⟨v, hv, e⟩ := h.all a b hab
      exact ⟨v, List.mem_append_left _ hv, e⟩
    · exact ⟨w, List.mem_append_right _ (List.mem_singleton.mpr rfl), e⟩
/-! ### the whole ring -/
/-! ### the numbers that a whole number brings to multiples of m -/
/-- the value at r -/
noncomputable def evr (ρ : Int) (x : F.R) : Int := ev (NF.row x) ρ
theorem PZ.ev_rep (ρ : Int) {a b : List Int} (h : PZ.of a = PZ.of b) : ev a ρ = ev b ρ := ev_co ρ fun t => by
  have := congrArg (fun z => PZ.co z t) h
  exact this
theorem evr_sub (ρ : Int) (x y : F.R) : evr ρ (x - y) = evr ρ x - evr ρ y := by
  unfold evr
  rw [← subP_ev]
  refine ev_co ρ fun t => ?_
  have := subP_co (NF.row x) (NF.row y) t
  rw [this]
  show co ((NF.lo (x - y)).row F.n) t = co ((NF.lo x).row F.n) t - co ((NF.lo y).row F.n) t
  rw [PZ.row_co, PZ.row_co, PZ.row_co]
  by_cases e : t < F.n
  · rw [if_pos e, if_pos e, if_pos e, NF.lo_sub, PZ.co_sub]
  · rw [if_neg e, if_neg e, if_neg e]; rfl
theorem evr_vec (ρ : Int) {l : List Int} (h : l.length ≤ F.n) : evr (F := F) ρ (F.vec l) = ev l ρ := by
  unfold evr
  refine ev_co ρ fun t => ?_
  show co ((NF.lo (F.vec l)).row F.n) t = _
  rw [PZ.row_co]
  by_cases e : t < F.n
  · rw [if_pos e]; exact NF.co_vecS h t
  · rw [if_neg e, co_out (by omega)]
/-- modulo what divides the polynomial's value, the value of a product -/
theorem evr_mul {f : List Int} {n : Nat} (hf : NfOf F f n) {m ρ : Int} (hd : m ∣ ev f ρ) (x y : F.R) : m ∣ evr ρ (x * y) - evr ρ x * evr ρ y := by
  have e : F.cl (PZ.of (mulP (NF.row x) (NF.row y))) = F.cl (PZ.of (NF.row (x * y))) := by
    rw [PZ.of_mul, NF.cl_mul]
    show F.vec _ * F.vec _ = F.vec _
    rw [NF.vec_row, NF.vec_row, NF.vec_row]
  obtain ⟨u, hu⟩ := NF.cl_eq.mp e
  obtain ⟨u, rfl⟩ := PZ.rep u
  rw [← hf.f, ← PZ.of_mul, ← PZ.of_add] at hu
  have := PZ.ev_rep ρ hu
  rw [mulP_ev, addP_ev, mulP_ev] at this
  obtain ⟨k, hk⟩ := hd
  rw [hk] at this
  unfold evr
  exact ⟨-(ev u ρ * k), by rw [this]; grind⟩
/-- .. an ideal -/
def Ke (F : NF) (m ρ : Int) : F.R → Prop := fun x => m ∣ evr ρ x
theorem ke_id {f : List Int} {n : Nat} (hf : NfOf F f n) {m ρ : Int} (hd : m ∣ ev f ρ) : IsId (Ke F m ρ) := by
  refine isId_of ⟨?_, fun {x y} hx hy => ?_⟩ fun a x hx => ?_
  · show m ∣ evr ρ 0
    rw [show (0 : F.R) = F.vec [] from rfl, evr_vec ρ (Nat.zero_le _)]
    exact Int.dvd_zero _
  · show m ∣ evr ρ (x - y)
    rw [evr_sub]; exact Int.dvd_sub hx hy
  · show m ∣ evr ρ (a * x)
    have h1 := evr_mul hf hd a x
    have h2 : m ∣ evr ρ a * evr ρ x := Int.dvd_mul_of_dvd_right hx
    have := Int.dvd_add h1 h2
    rwa [Int.sub_add_cancel] at this
theorem evr_add (ρ : Int) (x y : F.R) : evr ρ (x + y) = evr ρ x + evr ρ y := by
  have := evr_sub ρ (x + y) y
  rw [show x + y - y = x by grind] at this
  omega
theorem evr_int (ρ c : Int) : evr (F := F) ρ (c : F.R) = c := by
  have := F.pos
  rw [← vec_int c 0, evr_vec ρ (by simp; omega)]
  show c + ρ * 0 = c
  omega
end
end T
set_option maxRecDepth 100000
set_option maxHeartbeats 4000000
namespace T
open PySem PySem.Spec PyProof.Rows L2
/-! ### ideals that the laws draw -/
section
variable {F : NF} {r : Rg}
/-! known tables -/
noncomputable def knI (many m ρ : Int) : (List (List Int)) × Int → Int → M ((List (List Int)) × Int) := (fun (s6 : (List (List Int)) × Int) i7 => (M.bind (prep [0] many) fun row_here8 => (M.bind (M.bind (ok (decide (i7 = 0))) fun z9 => if z9 = true then (M.bind (pset row_here8 0 m) fun row_here10 => ok (s6.2, row_here10)) else (M.bind (M.bind (pmul s6.2 ρ) fun u12 => (pmod u12 m)) fun far11 => (M.bind (M.bind (pmod (-far11) m) fun u14 => (pset row_here8 0 u14)) fun row_here13 => (M.bind (pset row_here13 i7 1) fun row_here15 => ok (far11, row_here15))))) fun s16 => (M.bind (papp s6.1 s16.2) fun rows17 => ok (rows17, s16.1)))))
theorem e_l_known (many m ρ : Int) : m_l_known many m ρ = (M.bind (ok ([] : List (List Int))) fun rows4 => (M.bind (ok 1) fun far5 => (M.bind (M.bind (prangeI many) fun xs => loopM (knI many m ρ) (rows4, far5) xs) fun s18 => (ok s18.1)))) := rfl
/-- row i of the numbers nought at ρ modulo m -/
def knR (n : Nat) (m ρ : Int) (i : Nat) : List Int := (List.range n).map fun t => if i = 0 then (if t = 0 then m else 0) else if t = 0 then (-(ρ ^ i)) % m else if t = i then 1 else 0
theorem row_ext {a b : List Int} {n : Nat} (ha : a.length = n) (hb : b.length = n) (h : ∀ t, t < n → co a t = co b t) : a = b := by
  rw [← co_list ha, ← co_list hb]
  exact List.map_congr_left fun t ht => h t (List.mem_range.mp ht)
theorem known_rows {n : Nat} {m ρ : Int} (hn1 : 1 ≤ n) (hn : n ≤ 1000) (hm : 0 < m) (hms : Sm 100000 m) (hρ : Sm 100000 ρ) : m_l_known n m ρ = ok ((List.range n).map (knR n m ρ)) := by
  rw [e_l_known, bind_ok, bind_ok, pr_nat (by omega), bind_ok]
  have L := Tot.loopMi (f := knI n m ρ) (xs := rangeL 0 n) (c := (([] : List (List Int)), (1 : Int))) (fun i s => s.1 = (List.range i).map (knR n m ρ) ∧ Sm 100000 s.2 ∧ m ∣ s.2 - ρ ^ (i - 1)) ⟨rfl, show Nat.log2 1 ≤ 100000 by decide, by simp⟩ (fun i s x hx ⟨h1, h2, h3⟩ => by
    obtain ⟨rfl, hi⟩ := range_get hx
    have lr : (knR n m ρ i).length = n := by unfold knR; rw [List.length_map, List.length_range]
    show Tot (M.bind (prep [0] n) _) _
    rw [prepN 0 (by omega), bind_ok, bind_ok]
    by_cases e : i = 0
    · rw [if_pos (by simp [e]), show pset (List.replicate n 0) 0 m = ok _ from pset_nat (i := 0) (by rw [List.length_replicate]; omega), bind_ok, bind_ok, papp_ok (by rw [h1]; simp; omega), bind_ok]
      refine .ok ⟨?_, h2, by rw [e] at h3 ⊢; exact h3⟩
      show s.1 ++ [_] = _
      rw [h1, List.range_succ, List.map_append]
      congr 2
      refine row_ext (n := n) (by rw [List.length_set, List.length_replicate]) lr fun t ht => ?_
      rw [co_set (by rw [List.length_replicate]; omega), co_rep0]
      unfold knR
      rw [co_mapR, if_pos ht, if_pos e]
    · rw [if_neg (by simpa using e), mul_sm h2 hρ (by omega), bind_ok, pmod_pos hm, bind_ok, pmod_pos hm, bind_ok, show pset (List.replicate n 0) 0 (-(s.2 * ρ % m) % m) = ok _ from pset_nat (i := 0) (by rw [List.length_replicate]; omega), bind_ok, pset_nat (by rw [List.length_set, List.length_replicate]; omega), bind_ok, bind_ok, papp_ok (by rw [h1]; simp; omega), bind_ok]
      have b0 := Int.emod_nonneg (s.2 * ρ) (show m ≠ 0 by omega)
      have b1 := Int.emod_lt_of_pos (s.2 * ρ) hm
      have hpow : ρ ^ (i - 1) * ρ = ρ ^ i := by rw [← Int.pow_succ, show (i - 1).succ = i by omega]
      have hd : m ∣ s.2 * ρ % m - ρ ^ i := by
        have q1 := Int.mul_ediv_add_emod (s.2 * ρ) m
        obtain ⟨k, hk⟩ := h3
        refine ⟨k * ρ - (s.2 * ρ / m), ?_⟩
        have q2 : s.2 * ρ - ρ ^ i = m * (k * ρ) := by rw [← hpow, ← Int.sub_mul, hk, Int.mul_assoc]
        rw [Int.mul_sub]
        omega
      refine .ok ⟨?_, Nat.le_trans (log2_le (by show (s.2 * ρ % m).natAbs ≤ m.natAbs; omega)) hms, by show m ∣ s.2 * ρ % m - _; rw [Nat.add_sub_cancel]; exact hd⟩
      show s.1 ++ [_] = _
      rw [h1, List.range_succ, List.map_append]
      congr 2
      refine row_ext (n := n) (by rw [List.length_set, List.length_set, List.length_replicate]) lr fun t ht => ?_
      rw [co_set (by rw [List.length_set, List.length_replicate]; omega), co_set (by rw [List.length_replicate]; omega), co_rep0]
      unfold knR
      rw [co_mapR, if_pos ht, if_neg e]
      by_cases e2 : t = i
      · rw [if_pos e2, if_neg (by omega), if_pos e2]
      · rw [if_neg e2, if_neg e2]
        by_cases e3 : t = 0
        · rw [if_pos e3, if_pos e3]
          obtain ⟨k, hk⟩ := hd
          rw [show -(s.2 * ρ % m) = -(ρ ^ i) + m * (-k) by rw [Int.mul_neg]; omega, Int.add_mul_emod_self_left]
        · rw [if_neg e3, if_neg e3])
  rw [rangeL_len] at L
  obtain ⟨s, e, h1, _, _⟩ := L
  rw [e, bind_ok, h1]
theorem evr_e (ρ : Int) : ∀ i, i < F.n → evr (F := F) ρ (F.e i) = ρ ^ i := by
  intro i hi
  have e : F.e i = F.vec (List.replicate i 0 ++ [1]) := NF.ext fun t ht => by
    rw [NF.co_e hi, NF.co_vecS (by simp; omega), co_snoc (List.length_replicate ..), co_rep0]
  rw [e, evr_vec ρ (by simp; omega)]
  clear e hi
  induction i with
  | zero => show 1 + ρ * 0 = ρ ^ 0; rw [Int.pow_zero]; omega
  | succ i ih =>
    rw [List.replicate_succ, List.cons_append]
    show 0 + ρ * ev _ ρ = _
    rw [ih, Int.pow_succ, Int.zero_add, Int.mul_comm]
theorem known_tab (hf : NfOf F r.1 F.n) {m ρ : Int} (h2 : 2 ≤ F.n) (h4 : F.n ≤ 4) (hm : 0 < m) (hms : Sm 100000 m) (hρ : Sm 100000 ρ) (hd : m ∣ ev r.1 ρ) :
    ∃ A, m_l_known F.n m ρ = ok A ∧ Idl F A ∧ c0 A = m ∧ (∀ x, LA F A x ↔ Ke F m ρ x) ∧ ∀ i, 0 < i → i < F.n → T.co (A.getD i []) i = 1 := by
  have hg : ∀ i, i < F.n → ((List.range F.n).map (knR F.n m ρ)).getD i [] = knR F.n m ρ i := fun i hi => by
    rw [List.getD_eq_getElem?_getD, List.getElem?_map, List.getElem?_range hi]; rfl
  have lr : ∀ i, (knR F.n m ρ i).length = F.n := fun i => by unfold knR; rw [List.length_map, List.length_range]
  generalize hA : (List.range F.n).map (knR F.n m ρ) = A at hg
  have cA : ∀ i, i < F.n → ∀ t, t < F.n → NF.co (tv F A i) t = if i = 0 then (if t = 0 then m else 0) else if t = 0 then (-(ρ ^ i)) % m else if t = i then 1 else 0 := fun i hi t ht => by
    unfold tv
    rw [hg i hi, NF.co_vecS (by rw [lr]; omega)]
    unfold knR
    rw [co_mapR, if_pos ht]
  have b0 : ∀ i, 0 ≤ (-(ρ ^ i)) % m ∧ (-(ρ ^ i)) % m < m := fun i => ⟨Int.emod_nonneg _ (by omega), Int.emod_lt_of_pos _ hm⟩
  have sA : StA F A := by
    refine ⟨by rw [← hA, List.length_map, List.length_range], fun w hw => ?_, ⟨⟨fun i j hi hj => ?_, fun i hi => ?_⟩, fun i j hi hj => ?_⟩⟩
    · rw [← hA] at hw
      obtain ⟨i, _, rfl⟩ := List.mem_map.mp hw
      exact lr i
    · by_cases e : j < F.n
      · rw [cA i hi j e]
        by_cases e0 : i = 0
        · rw [if_pos e0, if_neg (by omega)]
        · rw [if_neg e0, if_neg (by omega), if_neg (by omega)]
      · exact NF.co_out _ (by omega)
    · rw [cA i hi i hi]
      by_cases e0 : i = 0
      · rw [if_pos e0, if_pos e0]; exact hm
      · rw [if_neg e0, if_neg e0, if_pos rfl]; decide
    · rw [cA i hi j (by omega), cA j (by omega) j (by omega), if_neg (by omega)]
      by_cases e0 : j = 0
      · rw [if_pos e0, if_pos e0, if_pos e0]; exact b0 i
      · rw [if_neg e0, if_neg (by omega), if_neg e0, if_neg e0, if_pos rfl]; omega
  have hI := ke_id hf hd
  have rows : ∀ i, i < F.n → Ke F m ρ (tv F A i) := fun i hi => by
    by_cases e0 : i = 0
    · have : tv F A i = ((m : Int) : F.R) := NF.ext fun t ht => by rw [cA i hi t ht, if_pos e0, NF.co_intC (by omega)]
      rw [this]
      show m ∣ evr ρ _
      rw [evr_int]; exact Int.dvd_refl _
    · have : tv F A i = (((-(ρ ^ i)) % m : Int) : F.R) + F.e i := NF.ext fun t ht => by
        rw [cA i hi t ht, if_neg e0, NF.co_add, NF.co_intC (by omega), NF.co_e hi]
        by_cases e : t = 0
        · rw [if_pos e, if_pos e, if_neg (by omega)]; omega
        · rw [if_neg e, if_neg e]; omega
      rw [this]
      show m ∣ evr ρ _
      rw [evr_add, evr_int, evr_e ρ i hi]
      have := Int.mul_ediv_add_emod (-(ρ ^ i)) m
      exact ⟨-(-(ρ ^ i) / m), by rw [Int.mul_neg]; omega⟩
  have key : ∀ x, LA F A x ↔ Ke F m ρ x := fun x => by
    constructor
    · intro h
      exact Sp.le hI.toIsSub (fun g ⟨i, hi, e⟩ => e ▸ rows i hi) h
    · intro hx
      obtain ⟨y, h1, h2, h3⟩ := tb_rest (S := LA F A) (Sp.is _) sA.tb.toTb (fun i hi => Sp.of ⟨i, hi, rfl⟩) F.n (Nat.le_refl _) x
      have ey : y = ((NF.co y 0 : Int) : F.R) := NF.ext fun t ht => by
        rw [NF.co_intC (by omega)]
        by_cases e : t = 0
        · rw [if_pos e, e]
        · have := h2 t ht
          rw [cA t ht t ht, if_neg e, if_neg e, if_pos rfl] at this
          rw [if_neg e]; omega
      have ky : Ke F m ρ y := by
        have := hI.sub hx (Sp.le hI.toIsSub (fun g ⟨i, hi, e⟩ => e ▸ rows i hi) h1)
        rwa [show x - (x - y) = y by grind] at this
      have ky : m ∣ evr ρ y := ky
      rw [ey, evr_int] at ky
      have b := h2 0 (by omega)
      rw [cA 0 (by omega) 0 (by omega), if_pos rfl, if_pos rfl] at b
      have z : NF.co y 0 = 0 := dvd_small ky (by omega) b.2
      rw [z] at ey
      rw [ey] at h1
      rwa [show x - ((0 : Int) : F.R) = x by grind] at h1
  refine ⟨A, by rw [known_rows (by omega) (by omega) hm hms hρ, hA], sA.idl hI key, ?_, key, fun i h0 hi => by rw [← sA.co hi, cA i hi i hi, if_neg (by omega), if_neg (by omega), if_pos rfl]⟩
  unfold c0
  rw [← sA.co (by omega), cA 0 (by omega) 0 (by omega), if_pos rfl, if_pos rfl]
/-! powers -/
def Pw (I : F.R → Prop) : Nat → F.R → Prop
  | 0 => fun _ => True
  | k + 1 => Pr (Pw I k) I
theorem true_id : IsId (fun _ : F.R => True) := ⟨⟨True.intro, fun _ _ => True.intro⟩, fun _ => True.intro⟩
theorem Pw.id {I : F.R → Prop} (h : IsId I) : ∀ k, IsId (Pw I k)
  | 0 => true_id
  | k + 1 => Pr.id (Pw.id h k)
theorem Pr.congr {I J I' J' : F.R → Prop} (hI : ∀ x, I x ↔ I' x) (hJ : ∀ x, J x ↔ J' x) (x : F.R) : Pr I J x ↔ Pr I' J' x := by
  rw [show I' = I from funext fun x => propext (hI x).symm, show J' = J from funext fun x => propext (hJ x).symm]
/-! multiples -/
def Sc (s : Int) (I : F.R → Prop) (x : F.R) : Prop := ∃ y, I y ∧ x = (s : F.R) * y
theorem Sc.id {s : Int} {I : F.R → Prop} (h : IsId I) : IsId (Sc s I) := by
  refine isId_of ⟨⟨0, h.zero, by grind⟩, ?_⟩ ?_
  · rintro x y ⟨u, hu, rfl⟩ ⟨v, hv, rfl⟩
    exact ⟨u - v, h.sub hu hv, by grind⟩
  · rintro a x ⟨u, hu, rfl⟩
    exact ⟨a * u, h.mul hu a, by grind⟩
theorem scale_tab {A : List (List Int)} (hA : Idl F A) {s : Int} (hs : 0 < s) : Idl F (A.map fun row : List Int => row.map (s * ·)) ∧ (∀ x, LA F (A.map fun row : List Int => row.map (s * ·)) x ↔ Sc s (LA F A) x) ∧ c0 (A.map fun row : List Int => row.map (s * ·)) = s * c0 A := by
  generalize hB : (A.map fun row : List Int => row.map (s * ·)) = B
  have hg : ∀ i, i < F.n → B.getD i [] = (A.getD i []).map (s * ·) := fun i hi => by
    rw [← hB, List.getD_eq_getElem?_getD, List.getElem?_map, List.getD_eq_getElem?_getD, List.getElem?_eq_getElem (by rw [hA.len]; exact hi)]; rfl
  have tvB : ∀ i, i < F.n → tv F B i = (s : F.R) * tv F A i := fun i hi => by
    unfold tv
    rw [hg i hi, vec_scale]
  have sB : StA F B := by
    refine ⟨by rw [← hB, List.length_map]; exact hA.len, fun w hw => ?_, ⟨⟨fun i j hi hj => ?_, fun i hi => ?_⟩, fun i j hi hj => ?_⟩⟩
    · rw [← hB] at hw
      obtain ⟨v, hv, rfl⟩ := List.mem_map.mp hw
      rw [List.length_map]; exact hA.rows v hv
    · rw [tvB i hi, NF.co_int_mul, hA.tb.up i j hi hj, Int.mul_zero]
    · rw [tvB i hi, NF.co_int_mul]; exact Int.mul_pos hs (hA.tb.pos i hi)
    · rw [tvB i hi, tvB j (by omega), NF.co_int_mul, NF.co_int_mul]
      have := hA.tb.red i j hi hj
      exact ⟨Int.mul_nonneg (by omega) this.1, Int.mul_lt_mul_of_pos_left this.2 hs⟩
  have key : ∀ x, LA F B x ↔ Sc s (LA F A) x := fun x => by
    constructor
    · refine Sp.le (Sc.id hA.id).toIsSub fun g ⟨i, hi, e⟩ => ?_
      rw [e, tvB i hi]
      exact ⟨_, Sp.of ⟨i, hi, rfl⟩, rfl⟩
    · rintro ⟨y, hy, rfl⟩
      refine hy (fun y => LA F B ((s : F.R) * y)) ⟨by rw [show (s : F.R) * 0 = 0 by grind]; exact (Sp.is _).zero, fun {a b} ha hb => ?_⟩ fun g ⟨i, hi, e⟩ => ?_
      · rw [show (s : F.R) * (a - b) = (s : F.R) * a - (s : F.R) * b by grind]; exact (Sp.is _).sub ha hb
      · rw [e, ← tvB i hi]; exact Sp.of ⟨i, hi, rfl⟩
  refine ⟨sB.idl (Sc.id hA.id) key, key, ?_⟩
  have hp := F.pos
  unfold c0
  rw [← sB.co hp, tvB 0 hp, NF.co_int_mul, hA.toStA.co hp]
end
end T
set_option maxRecDepth 100000
set_option maxHeartbeats 4000000
namespace T
open PySem PySem.Spec PyProof.Rows L2
/-! ### the ideal made by some numbers -/
section
variable {F : NF} {r : Rg}
/-- the least ideal that holds some numbers -/
def Ig (G : F.R → Prop) (x : F.R) : Prop := ∀ S : F.R → Prop, IsId S → (∀ g, G g → S g) → S x
theorem Ig.id (G : F.R → Prop) : IsId (Ig G) := ⟨⟨fun S h _ => h.zero, fun hx hy S h g => h.sub (hx S h g) (hy S h g)⟩, fun hx S h g => h.turn (hx S h g)⟩
theorem Ig.of {G : F.R → Prop} {x : F.R} (h : G x) : Ig G x := fun _ _ g => g x h
theorem mateL_len {n : Nat} (A : List (List Int)) (hn : 1 ≤ n) : (mateL n A).length = n := by
  unfold mateL
  split
  · rw [List.length_map]; exact hv_len _ hn _
  · exact hv_len _ hn _
/-- a number's norm is one of its multiples -/
theorem norm_in (h : RF r F) {x : List Int} {U : List (List Int)} (hx : x.length = F.n) (hU : IsTab r.1 x F.n U) {S : F.R → Prop} (hS : IsId S) (hxS : S (F.vec x)) : S ((dz F.n U : Int) : F.R) := by
  rw [← vec_mate h.of h.len h.top h.two h.four hx hU (mateL_len U (by have := h.two; omega))]
  exact hS.mul hxS _
/-- the tables of some numbers, and what their norms share -/
structure Tn (F : NF) (k : Nat) (X : List Int → Prop) (m : Int) (rows : List (List Int)) : Prop where
  m0 : 0 ≤ m
  row : ∀ w ∈ rows, w.length = F.n ∧ (∀ z ∈ w, Sm k z) ∧ ∃ x, X x ∧ ∃ a : F.R, F.vec w = a * F.vec x
  all : ∀ x, X x → ∀ i, i < F.n → ∃ w ∈ rows, F.vec w = F.e i * F.vec x
  inn : ∀ S : F.R → Prop, IsId S → (∀ x, X x → S (F.vec x)) → S (m : F.R)
  pos : (∃ x, X x ∧ F.vec x ≠ 0) → 0 < m
  sm : Sm k m
theorem Tn.congr {k : Nat} {X Y : List Int → Prop} {m : Int} {rows : List (List Int)} (h : Tn F k X m rows) (e : ∀ x, X x ↔ Y x) : Tn F k Y m rows := by
  rwa [show Y = X from funext fun x => propext (e x).symm]
theorem Tn.zero {k : Nat} : Tn F k (fun _ => False) 0 [] := ⟨by decide, fun w hw => absurd hw List.not_mem_nil, fun x hx => hx.elim, fun S hS _ => by rw [show ((0 : Int) : F.R) = 0 by grind]; exact hS.zero, fun ⟨x, hx, _⟩ => hx.elim, Nat.zero_le _⟩
/-- the numbers of a list -/
def Nm (F : NF) (xs : List (List Int)) (g : F.R) : Prop := ∃ y, y ∈ xs ∧ g = F.vec y
end
end T
set_option maxRecDepth 100000
set_option maxHeartbeats 4000000
namespace T
open PySem PySem.Spec PyProof.Rows L2
/-! ### the laws' drawn ideals -/
section
variable {F : NF} {r : Rg}
end
end T
set_option maxRecDepth 100000
set_option maxHeartbeats 4000000
namespace T
open PySem PySem.Spec PyProof.Rows L2
/-! ### ideals of a whole ring: parted, counted -/
section
variable {F : NF}
/-- an ideal with a whole number above 0 -/
structure Nz (I : F.R → Prop) : Prop extends IsId I where
  some : ∃ m : Int, 0 < m ∧ I (m : F.R)
theorem Idl.nz {A : List (List Int)} (h : Idl F A) : Nz (LA F A) := ⟨h.id, c0 A, h.c0_pos, h.c0_in⟩
theorem Nz.pr {I J : F.R → Prop} (hI : Nz I) (hJ : Nz J) : Nz (Pr I J) := by
  obtain ⟨m, m0, hm⟩ := hI.some
  obtain ⟨k, k0, hk⟩ := hJ.some
  exact ⟨Pr.id hI.toIsId, m * k, Int.mul_pos m0 k0, by rw [ic_mul]; exact Pr.of hm hk⟩
theorem Nz.sup {I J : F.R → Prop} (hI : Nz I) (hJ : IsId J) (h : ∀ x, I x → J x) : Nz J := by
  obtain ⟨m, m0, hm⟩ := hI.some
  exact ⟨hJ, m, m0, h _ hm⟩
theorem Pr.le_l {I J : F.R → Prop} (hI : IsId I) {x : F.R} (h : Pr I J x) : I x := Pr.le hI.toIsSub (fun x y hx _ => by rw [show x * y = y * x by grind]; exact hI.mul hx y) h
theorem Pr.le_r {I J : F.R → Prop} (hJ : IsId J) {x : F.R} (h : Pr I J x) : J x := Pr.le hJ.toIsSub (fun x y _ hy => hJ.mul hy x) h
theorem Pr.one {I : F.R → Prop} (hI : IsId I) (x : F.R) : Pr I (fun _ => True) x ↔ I x := ⟨Pr.le_l hI, fun h => by
  have := Pr.of (J := fun _ : F.R => True) h (y := 1) True.intro
  rwa [show x * 1 = x by grind] at this⟩
/-- what is divided by m -/
def Dv' (m : Int) (K : F.R → Prop) (z : F.R) : Prop := K ((m : F.R) * z)
theorem Dv'.id {m : Int} {K : F.R → Prop} (h : IsId K) : IsId (Dv' m K) := by
  refine isId_of ⟨?_, fun {x y} hx hy => ?_⟩ fun a x hx => ?_
  · show K ((m : F.R) * 0); rw [show (m : F.R) * 0 = 0 by grind]; exact h.zero
  · show K ((m : F.R) * (x - y)); rw [show (m : F.R) * (x - y) = (m : F.R) * x - (m : F.R) * y by grind]; exact h.sub hx hy
  · show K ((m : F.R) * (a * x)); rw [show (m : F.R) * (a * x) = a * ((m : F.R) * x) by grind]; exact h.mul hx a
/-- a factor that two products share -/
theorem Whole.cancel (hw : Whole F) {A C D : F.R → Prop} (hA : Nz A) (hD : IsId D) (h : ∀ x, Pr A C x → Pr A D x) {c : F.R} (hc : C c) : D c := by
  obtain ⟨m, m0, hm⟩ := hA.some
  have hmm : Pr A (Du m A) (m : F.R) := (hw.inv hA.toIsId m0 hm _).mpr (by rw [show (m : F.R) = (m : F.R) * 1 by grind]; exact mm_int m 1)
  have : Sc m D ((m : F.R) * c) := by
    refine Pr.le (S := fun z => Sc m D (z * c)) ⟨?_, ?_⟩ (fun x y hx hy => ?_) hmm
    · exact ⟨0, hD.zero, by grind⟩
    · rintro u v ⟨a, ha, ea⟩ ⟨b, hb, eb⟩
      exact ⟨a - b, hD.sub ha hb, by rw [show (u - v) * c = u * c - v * c by grind, ea, eb]; grind⟩
    · -- x y c = y (x c), x c in A D
      have hxc := h _ (Pr.of hx hc)
      have : Sc m D (y * (x * c)) := by
        refine Pr.le (S := fun z => Sc m D (y * z)) ⟨⟨0, hD.zero, by grind⟩, ?_⟩ (fun u v hu hv => ?_) hxc
        · rintro u v ⟨a, ha, ea⟩ ⟨b, hb, eb⟩
          exact ⟨a - b, hD.sub ha hb, by rw [show y * (u - v) = y * u - y * v by grind, ea, eb]; grind⟩
        · obtain ⟨w, e⟩ := NF.dvp_iff.mp (hy u hu)
          exact ⟨w * v, hD.mul hv w, by rw [show y * (u * v) = u * y * v by grind, e]; grind⟩
      rwa [show y * (x * c) = x * y * c by grind] at this
  obtain ⟨d, hd, e⟩ := this
  rw [NF.int_cancel (by omega) e]
  exact hd
/-- what holds B is parted off it -/
theorem Whole.parted (hw : Whole F) {P B : F.R → Prop} (hP : Nz P) (hB : Nz B) (h : ∀ x, B x → P x) : ∃ C, Nz C ∧ (∀ x, B x → C x) ∧ ∀ x, Pr C P x ↔ B x := by
  obtain ⟨p, p0, hp⟩ := hP.some
  have hpp : Pr P (Du p P) (p : F.R) := (hw.inv hP.toIsId p0 hp _).mpr (by rw [show (p : F.R) = (p : F.R) * 1 by grind]; exact mm_int p 1)
  have hK : IsId (Pr B (Du p P)) := Pr.id hB.toIsId
  have hBC : ∀ x, B x → Dv' p (Pr B (Du p P)) x := fun x hx => by
    show Pr B (Du p P) ((p : F.R) * x)
    rw [show (p : F.R) * x = x * (p : F.R) by grind]
    exact Pr.of hx (Du.m p P)
  refine ⟨Dv' p (Pr B (Du p P)), hB.sup (Dv'.id hK) hBC, hBC, fun x => ⟨?_, fun hx => ?_⟩⟩
  · refine Pr.le hB.toIsSub fun z w hz hw' => ?_
    -- p z w in B P* P = p B
    have hz : Pr B (Du p P) ((p : F.R) * z) := hz
    have : Sc p B ((p : F.R) * z * w) := by
      refine Pr.le (S := fun u => Sc p B (u * w)) ⟨⟨0, hB.zero, by grind⟩, ?_⟩ (fun u v hu hv => ?_) hz
      · rintro u v ⟨a, ha, ea⟩ ⟨b, hb, eb⟩
        exact ⟨a - b, hB.sub ha hb, by rw [show (u - v) * w = u * w - v * w by grind, ea, eb]; grind⟩
      · obtain ⟨q, e⟩ := NF.dvp_iff.mp (hv w hw')
        exact ⟨q * u, hB.mul hu q, by rw [show u * v * w = u * (w * v) by grind, e]; grind⟩
    obtain ⟨b, hb, e⟩ := this
    rw [show (p : F.R) * z * w = (p : F.R) * (z * w) by grind] at e
    rw [NF.int_cancel (by omega) e]
    exact hb
  · -- p x = sum of w (y x)
    have : Sc p (Pr (Dv' p (Pr B (Du p P))) P) ((p : F.R) * x) := by
      have hC := Pr.id (J := P) (Dv'.id (m := p) hK)
      refine Pr.le (S := fun u => Sc p (Pr (Dv' p (Pr B (Du p P))) P) (u * x)) ⟨⟨0, hC.zero, by grind⟩, ?_⟩ (fun u v hu hv => ?_) hpp
      · rintro u v ⟨a, ha, ea⟩ ⟨b, hb, eb⟩
        exact ⟨a - b, hC.sub ha hb, by rw [show (u - v) * x = u * x - v * x by grind, ea, eb]; grind⟩
      · obtain ⟨z, e⟩ := NF.dvp_iff.mp (hv x (h x hx))
        refine ⟨z * u, Pr.of (show Pr B (Du p P) ((p : F.R) * z) from ?_) hu, by rw [show u * v * x = u * (x * v) by grind, e]; grind⟩
        rw [← e]; exact Pr.of hx hv
    obtain ⟨b, hb, e⟩ := this
    rw [NF.int_cancel (by omega) e]
    exact hb
/-! counting -/
theorem Ix.sub {S U : F.R → Prop} (hU : IsSub U) (hSU : ∀ x, S x → U x) {k : Nat} (h : Ix S (fun _ => True) k) : ∃ j, Ix S U j := by
  classical
  obtain ⟨l, _, _, l2, l3⟩ := h
  refine ⟨_, l.filter (fun x => decide (U x)), rfl, fun x hx => by simpa using (List.mem_filter.mp hx).2, l2.filter _, fun x hx => ?_⟩
  obtain ⟨y, hy, e⟩ := l3 x True.intro
  refine ⟨y, List.mem_filter.mpr ⟨hy, ?_⟩, e⟩
  have := hU.sub hx (hSU _ e)
  rw [show x - (x - y) = y by grind] at this
  simpa using this
theorem Ix.pos {S U : F.R → Prop} (hU : IsSub U) {k : Nat} (h : Ix S U k) : 0 < k := by
  obtain ⟨l, rfl, _, _, l3⟩ := h
  obtain ⟨y, hy, _⟩ := l3 0 hU.zero
  exact List.length_pos_of_mem hy
theorem Ix.one {S U : F.R → Prop} (hS : IsSub S) (hU : IsSub U) (h : Ix S U 1) {x : F.R} (hx : U x) : S x := by
  obtain ⟨l, hl, _, _, l3⟩ := h
  match l, hl with
  | [y], _ =>
    obtain ⟨a, ha, ea⟩ := l3 x hx
    obtain ⟨b, hb, eb⟩ := l3 0 hU.zero
    rw [List.mem_singleton.mp ha] at ea
    rw [List.mem_singleton.mp hb] at eb
    have := hS.sub ea eb
    rwa [show x - y - (0 - y) = x by grind] at this
theorem Ix.self {S : F.R → Prop} (hS : IsSub S) : Ix S S 1 := ⟨[0], rfl, fun x hx => by rw [List.mem_singleton.mp hx]; exact hS.zero, List.pairwise_singleton _ _, fun x hx => ⟨0, List.mem_singleton.mpr rfl, by rwa [show x - 0 = x by grind]⟩⟩
theorem Nz.tab {I : F.R → Prop} (h : Nz I) : ∃ B : Nat → F.R, TbR F B ∧ ∀ x, I x ↔ Sp (Rw B) x := by
  obtain ⟨m, m0, hm⟩ := h.some
  exact tb_ex h.toIsSub m0 fun i _ => h.ints hm _
theorem Nz.ix {I : F.R → Prop} (h : Nz I) : ∃ k, Ix I (fun _ => True) k := by
  obtain ⟨B, hB, e⟩ := h.tab
  exact ⟨_, (ix_tb hB.toTb).congr (fun x => (e x).symm) fun _ => Iff.rfl⟩
/-- an ideal that none but the whole ring is above -/
structure Mx (P : F.R → Prop) : Prop extends Nz P where
  ne : ¬ P 1
  max : ∀ Q, IsId Q → (∀ x, P x → Q x) → (∀ x, Q x → P x) ∨ Q 1
theorem mx_ex {B : F.R → Prop} (hB : Nz B) (h1 : ¬ B 1) : ∃ P, Mx P ∧ ∀ x, B x → P x := by
  obtain ⟨k0, hk0⟩ := hB.ix
  obtain ⟨k, ⟨P, h1, h2, h3, h4⟩, hl⟩ := least_nat (P := fun k => ∃ P : F.R → Prop, IsId P ∧ (∀ x, B x → P x) ∧ ¬ P 1 ∧ Ix P (fun _ => True) k) ⟨B, hB.toIsId, fun _ h => h, h1, hk0⟩
  refine ⟨P, ⟨hB.sup h1 h2, h3, fun Q hQ hPQ => ?_⟩, h2⟩
  by_cases q1 : Q 1
  · exact .inr q1
  · obtain ⟨j, hj⟩ := (hB.sup hQ fun x hx => hPQ x (h2 x hx)).ix
    have := hl j ⟨Q, hQ, fun x hx => hPQ x (h2 x hx), q1, hj⟩
    obtain ⟨i, hi⟩ := Ix.sub hQ.toIsSub hPQ h4
    have e := Ix.uniq h1.toIsSub h4 (Ix.tower h1.toIsSub hQ.toIsSub true_id.toIsSub hPQ (fun _ _ => True.intro) hj hi)
    have ip := hi.pos hQ.toIsSub
    have jp := hj.pos true_id.toIsSub
    have : i = 1 := by
      apply Classical.byContradiction
      intro z
      have : j * 2 ≤ j * i := Nat.mul_le_mul_left _ (by omega)
      omega
    subst this
    exact .inl fun x hx => Ix.one h1.toIsSub hQ.toIsSub hi hx
theorem Whole.simple (hw : Whole F) {J P : F.R → Prop} (hJ : Nz J) (hP : Mx P) {q : Nat} (hq : Ix P (fun _ => True) q) : Ix (Pr J P) J q := by
  have hJP : IsId (Pr J P) := Pr.id hJ.toIsId
  obtain ⟨v, hv, nv⟩ : ∃ v, J v ∧ ¬ Pr J P v := by
    apply Classical.byContradiction
    intro z
    have : ∀ x, J x → Pr J P x := fun x hx => Classical.byContradiction fun w => z ⟨x, hx, w⟩
    exact hP.ne (hw.cancel hJ hP.toIsId (C := fun _ => True) (fun x hx => this x (Pr.le_l hJ.toIsId hx)) True.intro)
  -- J' = (v) + J P
  have hJ' : IsId (fun x : F.R => ∃ a, Pr J P (x - a * v)) := by
    refine isId_of ⟨⟨0, by rw [show (0 : F.R) - 0 * v = 0 by grind]; exact hJP.zero⟩, ?_⟩ ?_
    · rintro x y ⟨a, ha⟩ ⟨b, hb⟩
      exact ⟨a - b, by rw [show x - y - (a - b) * v = (x - a * v) - (y - b * v) by grind]; exact hJP.sub ha hb⟩
    · rintro c x ⟨a, ha⟩
      exact ⟨c * a, by rw [show c * x - c * a * v = c * (x - a * v) by grind]; exact hJP.mul ha c⟩
  have hJ'J : ∀ x, (∃ a, Pr J P (x - a * v)) → J x := fun x ⟨a, ha⟩ => by
    have := hJ.add (Pr.le_l hJ.toIsId ha) (hJ.mul hv a)
    rwa [show x - a * v + a * v = x by grind] at this
  obtain ⟨C, hC, hJC, eC⟩ := hw.parted hJ (B := fun x : F.R => ∃ a, Pr J P (x - a * v)) (hJ.pr hP.toNz |>.sup hJ' fun x hx => ⟨0, by rwa [show x - 0 * v = x by grind]⟩) hJ'J
  have hPC : ∀ x, P x → C x := fun x hx => hw.cancel hJ hC.toIsId (C := P) (fun z hz => by
    have : Pr C J z := (eC z).mpr ⟨0, by rwa [show z - 0 * v = z by grind]⟩
    exact this.comm) hx
  have hC1 : C 1 := by
    rcases hP.max C hC.toIsId hPC with h | h
    · exfalso
      refine nv ?_
      have : Pr C J v := (eC v).mpr ⟨1, by rw [show v - 1 * v = 0 by grind]; exact hJP.zero⟩
      exact (Pr.mono h (fun _ h => h) this).comm
    · exact h
  have full : ∀ u, J u → ∃ a, Pr J P (u - a * v) := fun u hu => (eC u).mp (by
    have := Pr.of hC1 hu
    rwa [show (1 : F.R) * u = u by grind] at this)
  have ker : ∀ x, Pr J P (x * v) → P x := by
    have hK : IsId (fun x : F.R => Pr J P (x * v)) := by
      refine isId_of ⟨by rw [show (0 : F.R) * v = 0 by grind]; exact hJP.zero, fun {x y} hx hy => by rw [show (x - y) * v = x * v - y * v by grind]; exact hJP.sub hx hy⟩ fun a x hx => by
        rw [show a * x * v = a * (x * v) by grind]; exact hJP.mul hx a
    rcases hP.max _ hK fun x hx => by rw [show x * v = v * x by grind]; exact Pr.of hv hx with h | h
    · exact h
    · rw [show (1 : F.R) * v = v by grind] at h
      exact absurd h nv
  obtain ⟨l, rfl, _, l2, l3⟩ := hq
  refine ⟨l.map fun x => x * v, List.length_map .., fun y hy => ?_, ?_, fun u hu => ?_⟩
  · obtain ⟨x, _, rfl⟩ := List.mem_map.mp hy
    exact hJ.mul hv x
  · rw [List.pairwise_map]
    exact l2.imp fun {a b} h z => h (ker _ (by rwa [show (a - b) * v = a * v - b * v by grind]))
  · obtain ⟨a, ha⟩ := full u hu
    obtain ⟨y, hy, e⟩ := l3 a True.intro
    refine ⟨y * v, List.mem_map.mpr ⟨y, hy, rfl⟩, ?_⟩
    have h2 : Pr J P ((a - y) * v) := by rw [show (a - y) * v = v * (a - y) by grind]; exact Pr.of hv e
    have := hJP.add ha h2
    rwa [show u - a * v + (a - y) * v = u - y * v by grind] at this
/-- as many rests of A by A B as of the whole ring by B -/
theorem Whole.index (hw : Whole F) : ∀ (N k : Nat), k ≤ N → ∀ A B : F.R → Prop, Nz A → Nz B → Ix B (fun _ => True) k → Ix (Pr A B) A k
  | 0, k, hk, A, B, hA, hB, h => by have := h.pos true_id.toIsSub; omega
  | N + 1, k, hk, A, B, hA, hB, h => by
    by_cases b1 : B 1
    · have all : ∀ x, B x := hB.all b1
      have e1 : k = 1 := Ix.uniq hB.toIsSub h ((Ix.self hB.toIsSub).congr (fun _ => Iff.rfl) fun x => ⟨fun _ => True.intro, fun _ => all x⟩)
      rw [e1]
      exact (Ix.self hA.toIsSub).congr (fun x => ⟨fun h => by have := (Pr.one hA.toIsId x).mpr h; exact Pr.mono (fun _ h => h) (fun x _ => all x) this, Pr.le_l hA.toIsId⟩) fun _ => Iff.rfl
    · obtain ⟨P, hP, hBP⟩ := mx_ex hB b1
      obtain ⟨C, hC, hBC, eC⟩ := hw.parted hP.toNz hB hBP
      obtain ⟨q, hq⟩ := hP.toNz.ix
      obtain ⟨c, hc⟩ := hC.ix
      have i1 := hw.simple hC hP hq
      have eB := Ix.uniq hB.toIsSub h ((Ix.tower (Pr.id hC.toIsId).toIsSub hC.toIsSub true_id.toIsSub (fun x => Pr.le_l hC.toIsId) (fun _ _ => True.intro) hc i1).congr eC fun _ => Iff.rfl)
      have cp := hc.pos true_id.toIsSub
      have qp := hq.pos true_id.toIsSub
      have q2 : q ≠ 1 := fun z => hP.ne (Ix.one hP.toIsSub true_id.toIsSub (z ▸ hq) True.intro)
      have ck : c * 2 ≤ c * q := Nat.mul_le_mul_left _ (by omega)
      have i2 := hw.index N c (by omega) A C hA hC hc
      have i3 := hw.simple (hA.pr hC) hP hq
      have i4 := Ix.tower (Pr.id (Pr.id hA.toIsId)).toIsSub (Pr.id hA.toIsId).toIsSub hA.toIsSub (fun x => Pr.le_l (Pr.id hA.toIsId)) (fun x => Pr.le_l hA.toIsId) i2 i3
      rw [eB]
      refine i4.congr (fun x => ⟨fun h => ?_, fun h => ?_⟩) fun _ => Iff.rfl
      · exact Pr.mono (fun _ h => h) (fun y hy => (eC y).mp hy) h.assoc
      · exact Pr.assoc' (Pr.mono (fun _ h => h) (fun y hy => (eC y).mpr hy) h)
theorem Whole.norm_mul (hw : Whole F) {A B : F.R → Prop} (hA : Nz A) (hB : Nz B) {a b : Nat} (ha : Ix A (fun _ => True) a) (hb : Ix B (fun _ => True) b) : Ix (Pr A B) (fun _ => True) (a * b) :=
  Ix.tower (Pr.id hA.toIsId).toIsSub hA.toIsSub true_id.toIsSub (fun x => Pr.le_l hA.toIsId) (fun _ _ => True.intro) ha (hw.index b b (Nat.le_refl _) A B hA hB hb)
/-! norms of tables -/
def szL (n : Nat) (A : List (List Int)) : Int := (List.range n).foldl (fun p i => p * co (A.getD i []) i) 1
theorem foldl_range_succ {α : Type} (g : α → Nat → α) (a : α) (s : Nat) : (List.range (s + 1)).foldl g a = g ((List.range s).foldl g a) s := by
  rw [List.range_succ, List.foldl_append]; rfl
theorem szL_eq {A : List (List Int)} (h : StA F A) : ∀ s, s ≤ F.n → (szT F (tv F A) s : Int) = szL s A
  | 0, _ => rfl
  | s + 1, hs => by
    unfold szL
    rw [foldl_range_succ]
    show ((szT F (tv F A) s * (NF.co (tv F A s) s).toNat : Nat) : Int) = szL s A * _
    rw [Int.natCast_mul, szL_eq h s (by omega), h.co (by omega)]
    have := h.pos (i := s) (by omega)
    rw [show ((co (A.getD s []) s).toNat : Int) = co (A.getD s []) s by omega]
theorem StA.ix {A : List (List Int)} (h : StA F A) : Ix (LA F A) (fun _ => True) (szL F.n A).toNat := by
  have := ix_tb h.tb.toTb
  have e := szL_eq h F.n (Nat.le_refl _)
  rwa [show szT F (tv F A) F.n = (szL F.n A).toNat by omega] at this
/-! the product of known ideals -/
theorem Nz.congr {I J : F.R → Prop} (h : Nz I) (e : ∀ x, I x ↔ J x) : Nz J := by
  rwa [show J = I from funext fun x => propext (e x).symm]
theorem Sc.congr {s : Int} {I J : F.R → Prop} (h : ∀ x, I x ↔ J x) (x : F.R) : Sc s I x ↔ Sc s J x := by
  rw [show J = I from funext fun x => propext (h x).symm]
end
end T
set_option maxRecDepth 100000
set_option maxHeartbeats 4000000
namespace T
open PySem PySem.Spec PyProof.Rows L2
/-! ### powers of an ideal by the powers of its rows -/
section
variable {F : NF}
theorem Nz.pw {I : F.R → Prop} (h : Nz I) : ∀ k, Nz (Pw I k)
  | 0 => ⟨true_id, 1, by decide, True.intro⟩
  | k + 1 => (Nz.pw h k).pr h
end
end T
set_option maxRecDepth 100000
set_option maxHeartbeats 4000000
namespace T
open PySem PySem.Spec PyProof.Rows L2
/-! ### what a table holds; the laws' looks at tables -/
section
variable {F : NF} {r : Rg}
/-! the laws' looks -/
end
end T
set_option maxRecDepth 100000
set_option maxHeartbeats 4000000
namespace T
open PySem PySem.Spec PyProof.Rows L2
/-! ### what two ideals hold together, what both hold, which lies within which -/
section
variable {F : NF} {r : Rg}
/-! the sum -/
def Jn (I J : F.R → Prop) (x : F.R) : Prop := ∃ u v, I u ∧ J v ∧ x = u + v
theorem Jn.sub {I J : F.R → Prop} (hI : IsSub I) (hJ : IsSub J) : IsSub (Jn I J) := by
  refine ⟨⟨0, 0, hI.zero, hJ.zero, by grind⟩, ?_⟩
  rintro x y ⟨a, b, ha, hb, rfl⟩ ⟨c, d, hc, hd, rfl⟩
  exact ⟨a - c, b - d, hI.sub ha hc, hJ.sub hb hd, by grind⟩
theorem Jn.id {I J : F.R → Prop} (hI : IsId I) (hJ : IsId J) : IsId (Jn I J) := by
  refine ⟨Jn.sub hI.toIsSub hJ.toIsSub, ?_⟩
  rintro x ⟨a, b, ha, hb, rfl⟩
  exact ⟨_, _, hI.turn ha, hJ.turn hb, by grind⟩
theorem Jn.lt {I J : F.R → Prop} (hJ : IsSub J) {x : F.R} (h : I x) : Jn I J x := ⟨x, 0, h, hJ.zero, by grind⟩
theorem Jn.rt {I J : F.R → Prop} (hI : IsSub I) {x : F.R} (h : J x) : Jn I J x := ⟨0, x, hI.zero, h, by grind⟩
/-! what both hold -/
def Mt (I J : F.R → Prop) (x : F.R) : Prop := I x ∧ J x
theorem Mt.id {I J : F.R → Prop} (hI : IsId I) (hJ : IsId J) : IsId (Mt I J) := ⟨⟨⟨hI.zero, hJ.zero⟩, fun hx hy => ⟨hI.sub hx.1 hy.1, hJ.sub hx.2 hy.2⟩⟩, fun hx => ⟨hI.turn hx.1, hJ.turn hx.2⟩⟩
/-- two numbers side by side -/
noncomputable def pr2 (F2 : NF) (u v : F.R) : F2.R := F2.vec (NF.row u ++ NF.row v)
section
variable {F2 : NF} (h2n : F2.n = 2 * F.n)
include h2n
theorem co_pr2 (u v : F.R) (t : Nat) : NF.co (pr2 F2 u v) t = if t < F.n then NF.co u t else if t < 2 * F.n then NF.co v (t - F.n) else 0 := by
  unfold pr2
  rw [NF.co_vec (by rw [List.length_append, NF.row_len, NF.row_len]; omega), co_append, NF.row_len]
  have cr : ∀ (w : F.R) t, co (NF.row w) t = if t < F.n then NF.co w t else 0 := fun w t => PZ.row_co _ _ _
  by_cases e : t < F.n
  · rw [if_pos e, if_pos e, cr, if_pos e]
  · rw [if_neg e, if_neg e, cr]
    by_cases e2 : t < 2 * F.n
    · rw [if_pos (by omega), if_pos e2]
    · rw [if_neg (by omega), if_neg e2]
theorem pr2_sub (u v u' v' : F.R) : pr2 F2 u v - pr2 F2 u' v' = pr2 F2 (u - u') (v - v') := NF.ext fun t ht => by
  rw [NF.co_sub, co_pr2 h2n, co_pr2 h2n, co_pr2 h2n, NF.co_sub, NF.co_sub]
  by_cases e : t < F.n
  · rw [if_pos e, if_pos e, if_pos e]
  · rw [if_neg e, if_neg e, if_neg e]
    by_cases e2 : t < 2 * F.n
    · rw [if_pos e2, if_pos e2, if_pos e2]
    · rw [if_neg e2, if_neg e2, if_neg e2]; rfl
/-- the lattice of (b, a + b) -/
def Sd (F2 : NF) (I J : F.R → Prop) (z : F2.R) : Prop := ∃ a b, I a ∧ J b ∧ z = pr2 F2 b (a + b)
theorem Sd.sub {I J : F.R → Prop} (hI : IsSub I) (hJ : IsSub J) : IsSub (Sd F2 I J) := by
  constructor
  · refine ⟨0, 0, hI.zero, hJ.zero, NF.ext fun t ht => ?_⟩
    rw [NF.co_zero, co_pr2 h2n, show (0 : F.R) + 0 = 0 by grind, NF.co_zero, NF.co_zero]
    split <;> first | rfl | (split <;> rfl)
  · rintro x y ⟨a, b, ha, hb, rfl⟩ ⟨c, d, hc, hd, rfl⟩
    exact ⟨a - c, b - d, hI.sub ha hc, hJ.sub hb hd, by rw [pr2_sub h2n]; congr 1; grind⟩
end
end
end T
set_option maxRecDepth 100000
set_option maxHeartbeats 4000000
namespace T
open PySem PySem.Spec PyProof.Rows L2
/-! ### partners -/
section
variable {F : NF} {r : Rg}
/-! the numbers b -/
/-! the table undone -/
/-! the partner -/
/-! a table divided -/
/-! what is divided by an ideal -/
end
end T
set_option maxRecDepth 100000
set_option maxHeartbeats 4000000
namespace T
open PySem PySem.Spec PyProof.Rows L2
/-! the table of all multiples of a number -/
def dg (n : Nat) (m : Int) : List (List Int) := (rangeL 0 n).map fun i => (rangeL 0 n).map fun j => m * b2n (decide (i = j))
section
variable {F : NF} {r : Rg}
theorem dg_get {n i : Nat} (hi : i < n) (m : Int) : (dg n m).getD i [] = (rangeL 0 n).map fun j => m * b2n (decide ((i : Int) = j)) := by
  unfold dg
  rw [List.getD_eq_getElem?_getD, List.getElem?_map, rangeL_get, if_pos hi, Int.zero_add]; rfl
theorem dg_co {n i : Nat} (hi : i < n) (m : Int) (j : Nat) : co ((dg n m).getD i []) j = if i = j then m else 0 := by
  rw [dg_get hi, map_rangeL, co_mapRange]
  unfold b2n
  by_cases e : i = j
  · subst e
    simp [hi]
  · by_cases hj : j < n
    · rw [if_pos hj, if_neg e, if_neg (by simp; omega), Int.mul_zero]
    · rw [if_neg hj, if_neg e]
theorem dg_one (h : RF r F) : Idl F (dg F.n 1) ∧ ∀ x, LA F (dg F.n 1) x := by
  obtain ⟨U, eU, hU, cU, kU, rU⟩ := known_tab (r := r) (m := 1) (ρ := 0) h.of h.two h.four (by decide) (show Nat.log2 1 ≤ 100000 by decide) (Nat.zero_le _) (Int.one_dvd _)
  have : U = dg F.n 1 := by
    refine List.ext_getElem (by rw [hU.len]; unfold dg; rw [List.length_map, rangeL_len]) fun i h1 h2 => ?_
    have hi : i < F.n := by rwa [hU.len] at h1
    have g1 : U[i] = U.getD i [] := by simp [h1]
    have g2 : (dg F.n 1)[i] = (dg F.n 1).getD i [] := by simp [h2]
    rw [g1, g2]
    have l1 := hU.row hi
    have l2 : ((dg F.n 1).getD i []).length = F.n := by rw [dg_get hi, List.length_map, rangeL_len]
    refine List.ext_getElem (by rw [l1, l2]) fun j j1 j2 => ?_
    have hj : j < F.n := by rwa [l1] at j1
    rw [← co_get j1, ← co_get j2, dg_co hi]
    have cor : ∀ j, j < F.n → co (U.getD j []) j = 1 := fun j hj => by
      by_cases z : j = 0
      · subst z; exact cU
      · exact rU j (by omega) hj
    by_cases e : i = j
    · subst e; rw [if_pos rfl, cor i hi]
    · rw [if_neg e]
      by_cases l : i < j
      · exact hU.toStA.up hi l
      · have := hU.toStA.red hi (show j < i by omega)
        rw [cor j hj] at this
        omega
  subst this
  exact ⟨hU, fun x => (kU x).mpr (Int.one_dvd _)⟩
theorem dg_tab (h : RF r F) {m : Int} (hm : 0 < m) : Idl F (dg F.n m) ∧ (∀ x, LA F (dg F.n m) x ↔ NF.Dvp m x) ∧ c0 (dg F.n m) = m := by
  obtain ⟨h1, k1⟩ := dg_one h
  obtain ⟨h2, k2, c2⟩ := scale_tab h1 hm
  have e : (dg F.n 1).map (fun row : List Int => row.map (m * ·)) = dg F.n m := by
    unfold dg
    rw [List.map_map]
    refine List.map_congr_left fun i _ => ?_
    show List.map _ (List.map _ _) = _
    rw [List.map_map]
    refine List.map_congr_left fun j _ => ?_
    show m * (1 * _) = _
    rw [Int.one_mul]
  rw [e] at h2 k2 c2
  refine ⟨h2, fun x => (k2 x).trans ⟨fun ⟨y, _, e⟩ => NF.dvp_iff.mpr ⟨y, e⟩, fun z => ?_⟩, ?_⟩
  · obtain ⟨y, e⟩ := NF.dvp_iff.mp z
    exact ⟨y, k1 y, e⟩
  · unfold c0; rw [dg_co F.pos]; simp
theorem dg_size (n : Nat) (m : Int) : ∀ s, s ≤ n → szL s (dg n m) = m ^ s
  | 0, _ => by rw [Int.pow_zero]; rfl
  | s + 1, hs => by
    have := dg_size n m s (by omega)
    unfold szL at this ⊢
    rw [foldl_range_succ, this, dg_co (by omega), if_pos rfl, Int.pow_succ]
/-! the partner's partner -/
end
end T
set_option maxRecDepth 100000
set_option maxHeartbeats 4000000
namespace T
open PySem PySem.Spec PyProof.Rows L2
/-! the derivative -/
/-! a prime polynomial doesn't divide its derivative -/
end T
set_option maxRecDepth 100000
set_option maxHeartbeats 4000000
namespace T
open PySem PySem.Spec PyProof.Rows L2
section
variable {F : NF} {r : Rg}
end
end T
set_option maxRecDepth 100000
set_option maxHeartbeats 4000000
namespace T
open PySem PySem.Spec PyProof.Rows L2
/-! what primes divide the measure -/
section
variable {F : NF} {r : Rg}
end
end T
set_option maxRecDepth 100000
set_option maxHeartbeats 4000000
namespace T
open PySem PySem.Spec PyProof.Rows L2
/-! the measure by traces -/
section
variable {F : NF} {r : Rg}
noncomputable def sg (F : NF) (k : Nat) : Int := isum (fun i => NF.co (F.e (i + k)) i) F.n
end
end T
set_option maxRecDepth 100000
set_option maxHeartbeats 4000000
namespace T
open PySem PySem.Spec PyProof.Rows L2
/-! the laws' near ideals -/
section
variable {F : NF} {r : Rg}
end
end T
set_option maxRecDepth 100000
set_option maxHeartbeats 4000000
namespace T
open PySem PySem.Spec PyProof.Rows L2
/-! the primes above a prime: the numbers that a part of the polynomial divides -/
section
variable {F : NF} {r : Rg}
def Kg (F : NF) (p : Int) (g : PZ) (x : F.R) : Prop := Dvm p g (NF.lo x)
end
end T
set_option maxRecDepth 100000
set_option maxHeartbeats 4000000
namespace T
open PySem PySem.Spec PyProof.Rows L2
/-! the table of a prime above -/
noncomputable def m_prime_table (many1 : Int) (g2 : (List Int)) (p3 : Int) : M (List (List Int)) :=
  (M.bind (ok ((List.length g2 : Int) - 1)) fun low4 => (M.bind (ok ([] : List (List Int))) fun rows5 => (M.bind (M.bind (prangeI many1) fun xs => loopM (fun (rows6 : (List (List Int))) i7 => (M.bind (prep [0] many1) fun row8 => (M.bind (M.bind (ok (decide (i7 < low4))) fun z9 => if z9 = true then (M.bind (pset row8 i7 p3) fun row10 => ok (row10)) else (M.bind (M.bind (M.bind (M.bind (prep [0] i7) fun u12 => (pcat u12 [1])) fun u13 => (m_mod_parted u13 g2 p3)) fun u14 => ok u14.2) fun left11 => (M.bind (M.bind (prangeI (List.length left11 : Int)) fun xs => loopM (fun (row15 : (List Int)) j16 => (M.bind (M.bind (M.bind (M.bind (pget left11 j16) fun u17 => ok (-u17)) fun u18 => (pmod u18 p3)) fun u20 => (pset row15 j16 u20)) fun row19 => ok (row19))) (row8) xs) fun row21 => (M.bind (pset row21 i7 1) fun row22 => ok (row22))))) fun row23 => (M.bind (papp rows6 row23) fun rows24 => ok (rows24))))) (rows5) xs) fun rows25 => (ok rows25))))
section
variable {F : NF} {r : Rg}
end
end T
set_option maxRecDepth 100000
set_option maxHeartbeats 4000000
namespace T
open PySem PySem.Spec PyProof.Rows L2
section
variable {F : NF} {r : Rg}
/-- two maximal ideals, the one within the other, are one -/
theorem Mx.eq {P Q : F.R → Prop} (hP : Mx P) (hQ : Mx Q) (h : ∀ x, P x → Q x) : ∀ x, P x ↔ Q x := by
  rcases hP.max Q hQ.toIsId h with z | z
  · exact fun x => ⟨h x, z x⟩
  · exact absurd z hQ.ne
/-- a maximal ideal above a product is above one of both -/
theorem Mx.prime {P : F.R → Prop} (hP : Mx P) {A B : F.R → Prop} (hA : IsId A) (hB : IsId B) (h : ∀ x, Pr A B x → P x) : (∀ x, A x → P x) ∨ ∀ x, B x → P x := by
  by_cases q : ∀ x, A x → P x
  · exact .inl q
  · right
    obtain ⟨y, hy⟩ : ∃ y, ¬ (A y → P y) := Classical.not_forall.mp q
    have hy2 : A y ∧ ¬ P y := by
      by_cases a : A y
      · exact ⟨a, fun b => hy fun _ => b⟩
      · exact absurd (fun z => absurd z a) hy
    intro b hb
    -- the numbers whose products with b lie in P
    let Q : F.R → Prop := fun x => P (x * b)
    have hQ : IsId Q := isId_of ⟨by show P (0 * b); rw [show (0 : F.R) * b = 0 by grind]; exact hP.toIsSub.zero, fun {x z} hx hz => by
      show P ((x - z) * b)
      rw [show (x - z) * b = x * b - z * b by grind]
      exact hP.toIsSub.sub hx hz⟩ fun a x hx => by
        show P (a * x * b)
        rw [show a * x * b = a * (x * b) by grind]
        exact hP.toIsId.mul hx a
    rcases hP.max Q hQ fun x hx => by
        show P (x * b)
        rw [show x * b = b * x by grind]
        exact hP.toIsId.mul hx b with z | z
    · exact absurd (z y (h _ (Pr.of hy2.1 hb))) hy2.2
    · have : P (1 * b) := z
      rwa [show (1 : F.R) * b = b by grind] at this
/-! products of maximal ideals: one way alone -/
def prI : List (F.R → Prop) → (F.R → Prop)
  | [] => fun _ => True
  | P :: l => Pr P (prI l)
theorem prI_id : ∀ {l : List (F.R → Prop)}, (∀ P ∈ l, IsId P) → IsId (prI l)
  | [], _ => true_id
  | _ :: _, h => Pr.id (h _ List.mem_cons_self)
theorem prI_perm {l m : List (F.R → Prop)} (h : l.Perm m) : ∀ x, prI l x ↔ prI m x := by
  induction h with
  | nil => exact fun x => Iff.rfl
  | cons P _ ih => exact fun x => Pr.congr (fun _ => Iff.rfl) ih x
  | swap P Q l =>
    have one : ∀ (P Q R : F.R → Prop) (x : F.R), Pr P (Pr Q R) x → Pr Q (Pr P R) x := fun P Q R x h => Pr.assoc (Pr.mono (fun _ z => z.comm) (fun _ z => z) (Pr.assoc' h))
    exact fun x => ⟨one _ _ _ x, one _ _ _ x⟩
  | trans _ _ ih1 ih2 => exact fun x => (ih1 x).trans (ih2 x)
theorem prI_above {P : F.R → Prop} (hP : Mx P) : ∀ {m : List (F.R → Prop)}, (∀ Q ∈ m, Mx Q) → (∀ x, prI m x → P x) → ∃ Q ∈ m, ∀ x, Q x → P x
  | [], _, h => absurd (h 1 trivial) hP.ne
  | Q :: m, hm, h => by
    rcases hP.prime (hm Q List.mem_cons_self).toIsId (prI_id fun R hR => (hm R (List.mem_cons_of_mem _ hR)).toIsId) h with z | z
    · exact ⟨Q, List.mem_cons_self, z⟩
    · obtain ⟨R, hR, k⟩ := prI_above hP (fun R hR => hm R (List.mem_cons_of_mem _ hR)) z
      exact ⟨R, List.mem_cons_of_mem _ hR, k⟩
theorem Whole.ufd (hw : Whole F) : ∀ {l m : List (F.R → Prop)}, (∀ P ∈ l, Mx P) → (∀ P ∈ m, Mx P) → (∀ x, prI l x ↔ prI m x) → l.Perm m
  | [], m, _, hm, h => by
    cases m with
    | nil => exact .nil
    | cons Q m =>
      have : Pr Q (prI m) 1 := (h 1).mp trivial
      exact absurd (Pr.le_l (hm Q List.mem_cons_self).toIsId this) (hm Q List.mem_cons_self).ne
  | P :: l, m, hl, hm, h => by
    classical
    have hP := hl P List.mem_cons_self
    obtain ⟨Q, hQ, k⟩ := prI_above hP hm fun x hx => Pr.le_l hP.toIsId ((h x).mpr hx)
    have e : Q = P := funext fun x => propext ((hm Q hQ).eq hP k x)
    rw [e] at hQ
    have pm := List.perm_cons_erase hQ
    have h2 : ∀ x, Pr P (prI l) x ↔ Pr P (prI (m.erase P)) x := fun x => (h x).trans (prI_perm pm x)
    have hm2 : ∀ R ∈ m.erase P, Mx R := fun R hR => hm R (List.mem_of_mem_erase hR)
    have il := prI_id (l := l) fun R hR => (hl R (List.mem_cons_of_mem _ hR)).toIsId
    have im := prI_id (l := m.erase P) fun R hR => (hm2 R hR).toIsId
    have c : ∀ x, prI l x ↔ prI (m.erase P) x := fun x => ⟨hw.cancel hP.toNz im (fun y hy => (h2 y).mp hy), hw.cancel hP.toNz il (fun y hy => (h2 y).mpr hy)⟩
    exact ((hw.ufd (fun R hR => hl R (List.mem_cons_of_mem _ hR)) hm2 c).cons P).trans pm.symm
end
end T
set_option maxRecDepth 100000
set_option maxHeartbeats 4000000
namespace T
open PySem PySem.Spec PyProof.Rows L2
/-! in how many ways degrees add to a number -/
/-- the numbers of ways, with fuel -/
def wN : List Nat → Nat → Nat → Nat
  | [], k, _ => if k = 0 then 1 else 0
  | _ :: _, _, 0 => 0
  | d :: ds, k, n + 1 => wN ds k (k + 1) + if d ≤ k then wN (d :: ds) (k - d) n else 0
def ways (ds : List Nat) (k : Nat) : Nat := wN ds k (k + 1)
end T
set_option maxRecDepth 100000
set_option maxHeartbeats 4000000
namespace T
open PySem PySem.Spec PyProof.Rows L2
/-! data of one kind, sorted: of unlike data the list rises strictly -/
section
variable {α : Type} [DecidableEq α] {A : Dt α} {e : Enc A}
theorem ltE_trans {a b c : α} (h1 : ltE e a b = true) (h2 : ltE e b c = true) : ltE e a c = true :=
  lex_trans (O := PyProof.Rows.itemOrd) _ _ _ h1 h2
theorem ltE_irrefl (a : α) : ltE e a a = false := lex_irrefl (O := PyProof.Rows.itemOrd) _
end
end T
set_option maxRecDepth 100000
set_option maxHeartbeats 4000000
namespace T
open PySem PySem.Spec PyProof.Rows L2
/-! how many products of powers take a number of steps away wholly -/
section
variable {β : Type}
end
end T
set_option maxRecDepth 100000
set_option maxHeartbeats 4000000
namespace T
open PySem PySem.Spec PyProof.Rows L2
/-! the products of powers, as lists of their factors: no two are alike -/
section
variable {γ : Type} [DecidableEq γ]
end
end T
set_option maxRecDepth 100000
set_option maxHeartbeats 4000000
namespace T
open PySem PySem.Spec PyProof.Rows L2
/-! the products of powers: what their factors are, and the loop under a map -/
section
variable {γ : Type}
end
end T
set_option maxRecDepth 100000
set_option maxHeartbeats 4000000
namespace T
open PySem PySem.Spec PyProof.Rows L2
/-! the loop of powers in the program's own words -/
end T
set_option maxRecDepth 100000
set_option maxHeartbeats 4000000
namespace T
open PySem PySem.Spec PyProof.Rows L2
/-! the loop of powers for each that was found so far -/
end T
set_option maxRecDepth 100000
set_option maxHeartbeats 4000000
namespace T
open PySem PySem.Spec PyProof.Rows L2
/-! the loop over the primes above p -/
end T
set_option maxRecDepth 100000
set_option maxHeartbeats 4000000
namespace T
open PySem PySem.Spec PyProof.Rows L2
/-! what is left wholly taken -/
end T
set_option maxRecDepth 100000
set_option maxHeartbeats 4000000
namespace T
open PySem PySem.Spec PyProof.Rows L2
/-! how often a maximal ideal goes into an ideal -/
section
variable {F : NF} {r : Rg}
theorem fx {I J : F.R → Prop} (h : ∀ x, I x ↔ J x) : I = J := funext fun x => propext (h x)
theorem prI_app : ∀ (l m : List (F.R → Prop)), (∀ P ∈ l, IsId P) → (∀ P ∈ m, IsId P) → ∀ x, prI (l ++ m) x ↔ Pr (prI l) (prI m) x
  | [], m, _, hm, x => ⟨fun h => (Pr.of (I := fun _ : F.R => True) True.intro h |> fun z => by rwa [show (1 : F.R) * x = x by grind] at z), fun h => Pr.le_r (prI_id hm) h⟩
  | P :: l, m, hl, hm, x => by
    have ih := prI_app l m (fun Q hQ => hl Q (List.mem_cons_of_mem _ hQ)) hm
    show Pr P (prI (l ++ m)) x ↔ Pr (Pr P (prI l)) (prI m) x
    rw [fx ih]
    exact ⟨Pr.assoc', Pr.assoc⟩
theorem Whole.fac_ex (hw : Whole F) : ∀ (N k : Nat), k ≤ N → ∀ B : F.R → Prop, Nz B → Ix B (fun _ => True) k → ∃ l, (∀ P ∈ l, Mx P) ∧ ∀ x, prI l x ↔ B x
  | 0, k, hk, B, hB, h => by have := h.pos true_id.toIsSub; omega
  | N + 1, k, hk, B, hB, h => by
    by_cases b1 : B 1
    · exact ⟨[], (fun P hP => nomatch hP), fun x => ⟨fun _ => hB.toIsId.all b1 x, fun _ => True.intro⟩⟩
    · obtain ⟨P, hP, le⟩ := mx_ex hB b1
      obtain ⟨C, hC, _, e⟩ := hw.parted hP.toNz hB le
      obtain ⟨q, hq⟩ := hP.toNz.ix
      obtain ⟨c, hc⟩ := hC.ix
      have hqc := hw.norm_mul hC hP.toNz hc hq
      have ek := Ix.uniq hB.toIsSub h (hqc.congr e fun _ => Iff.rfl)
      have q1 : q ≠ 1 := fun z => hP.ne (Ix.one hP.toIsSub true_id.toIsSub (z ▸ hq) True.intro)
      have q0 := hq.pos true_id.toIsSub
      have c0 := hc.pos true_id.toIsSub
      have : c * 2 ≤ c * q := Nat.mul_le_mul_left _ (by omega)
      obtain ⟨l, hl, el⟩ := hw.fac_ex N c (by omega) C hC hc
      refine ⟨P :: l, fun Q hQ => ?_, fun x => ?_⟩
      · rcases List.mem_cons.mp hQ with rfl | hQ
        · exact hP
        · exact hl Q hQ
      · show Pr P (prI l) x ↔ B x
        rw [fx el]
        exact ⟨fun z => (e x).mp z.comm, fun z => ((e x).mpr z).comm⟩
open Classical in
noncomputable def fac (J : F.R → Prop) : List (F.R → Prop) := if h : ∃ l, (∀ P ∈ l, Mx P) ∧ ∀ x, prI l x ↔ J x then Classical.choose h else []
theorem Whole.facs (hw : Whole F) {J : F.R → Prop} (hJ : Nz J) : (∀ P ∈ T.fac J, Mx P) ∧ ∀ x, prI (T.fac J) x ↔ J x := by
  obtain ⟨k, hk⟩ := hJ.ix
  have h := hw.fac_ex k k (Nat.le_refl _) J hJ hk
  unfold T.fac
  rw [dif_pos h]
  exact Classical.choose_spec h
open Classical in
/-- how often P goes into J -/
noncomputable def vl (P J : F.R → Prop) : Nat := (fac J).count P
theorem nz_one : Nz (fun _ : F.R => True) := ⟨true_id, 1, by decide, True.intro⟩
theorem prI_nz : ∀ {l : List (F.R → Prop)}, (∀ P ∈ l, Nz P) → Nz (prI l)
  | [], _ => nz_one
  | _ :: _, h => Nz.pr (h _ List.mem_cons_self) (prI_nz fun P hP => h P (List.mem_cons_of_mem _ hP))
open Classical in
theorem Whole.vl_of (hw : Whole F) {l : List (F.R → Prop)} {J : F.R → Prop} (hl : ∀ P ∈ l, Mx P) (e : ∀ x, prI l x ↔ J x) (P : F.R → Prop) : vl P J = l.count P := by
  have hJ : Nz J := (prI_nz fun P hP => (hl P hP).toNz).congr e
  obtain ⟨h1, h2⟩ := hw.facs hJ
  exact (hw.ufd h1 hl fun x => (h2 x).trans (e x).symm).count_eq P
theorem Whole.vl_pr (hw : Whole F) {I J : F.R → Prop} (hI : Nz I) (hJ : Nz J) (P : F.R → Prop) : vl P (Pr I J) = vl P I + vl P J := by
  classical
  obtain ⟨i1, i2⟩ := hw.facs hI
  obtain ⟨j1, j2⟩ := hw.facs hJ
  rw [hw.vl_of (l := fac I ++ fac J) (fun Q hQ => (List.mem_append.mp hQ).elim (i1 Q) (j1 Q)) fun x => by
    rw [prI_app _ _ (fun Q hQ => (i1 Q hQ).toIsId) (fun Q hQ => (j1 Q hQ).toIsId), fx i2, fx j2], List.count_append, hw.vl_of i1 i2, hw.vl_of j1 j2]
theorem vl_not {P : F.R → Prop} (hw : Whole F) (hP : ¬ Mx P) {J : F.R → Prop} (hJ : Nz J) : vl P J = 0 := by
  classical
  obtain ⟨h1, _⟩ := hw.facs hJ
  exact List.count_eq_zero.mpr fun h => hP (h1 P h)
theorem count_sub {α : Type} [DecidableEq α] : ∀ (l m : List α), (∀ a, l.count a ≤ m.count a) → ∃ k, m.Perm (l ++ k)
  | [], m, _ => ⟨m, .refl _⟩
  | a :: l, m, h => by
    have ha : a ∈ m := List.count_pos_iff.mp (Nat.lt_of_lt_of_le (by rw [List.count_cons_self]; omega) (h a))
    have pm := List.perm_cons_erase ha
    obtain ⟨k, hk⟩ := count_sub l (m.erase a) fun b => by
      have := h b
      rw [pm.count_eq b, List.count_cons, List.count_cons] at this
      omega
    exact ⟨k, pm.trans (hk.cons a)⟩
/-- an ideal lies within another just where it has each prime as often -/
theorem Whole.vl_le (hw : Whole F) {I J : F.R → Prop} (hI : Nz I) (hJ : Nz J) : (∀ x, I x → J x) ↔ ∀ P, Mx P → vl P J ≤ vl P I := by
  classical
  constructor
  · intro h P hP
    obtain ⟨C, hC, _, e⟩ := hw.parted hJ hI h
    rw [← fx e, hw.vl_pr hC hJ]
    omega
  · intro h
    obtain ⟨i1, i2⟩ := hw.facs hI
    obtain ⟨j1, j2⟩ := hw.facs hJ
    obtain ⟨k, hk⟩ := count_sub (fac J) (fac I) fun P => by
      by_cases q : Mx P
      · exact h P q
      · have := vl_not hw q hJ
        unfold vl at this
        omega
    intro x hx
    have hk1 : ∀ Q ∈ k, Mx Q := fun Q hQ => i1 Q (hk.mem_iff.mpr (List.mem_append_right _ hQ))
    have := (prI_perm hk x).mp ((i2 x).mpr hx)
    rw [prI_app _ _ (fun Q hQ => (j1 Q hQ).toIsId) fun Q hQ => (hk1 Q hQ).toIsId] at this
    exact (j2 x).mp (Pr.le_l (prI_id fun Q hQ => (j1 Q hQ).toIsId) this)
theorem Whole.vl_self (hw : Whole F) {P : F.R → Prop} (hP : Mx P) : vl P P = 1 := by
  classical
  rw [hw.vl_of (l := [P]) (fun Q hQ => by rw [List.mem_singleton.mp hQ]; exact hP) fun x => Pr.one hP.toIsId x, List.count_singleton_self]
theorem Whole.vl_other (hw : Whole F) {P Q : F.R → Prop} (hP : Mx P) (hQ : Mx Q) (h : P ≠ Q) : vl P Q = 0 := by
  classical
  rw [hw.vl_of (l := [Q]) (fun R hR => by rw [List.mem_singleton.mp hR]; exact hQ) fun x => Pr.one hQ.toIsId x]
  exact List.count_eq_zero.mpr fun z => h (List.mem_singleton.mp z)
theorem Jn.nz {I J : F.R → Prop} (hI : Nz I) (hJ : Nz J) : Nz (Jn I J) := hI.sup (Jn.id hI.toIsId hJ.toIsId) fun x h => Jn.lt hJ.toIsSub h
theorem Jn.least {I J K : F.R → Prop} (hK : IsSub K) (h1 : ∀ x, I x → K x) (h2 : ∀ x, J x → K x) {x : F.R} (h : Jn I J x) : K x := by
  obtain ⟨u, v, hu, hv, rfl⟩ := h
  exact hK.add (h1 u hu) (h2 v hv)
theorem Mt.nz {I J : F.R → Prop} (hI : Nz I) (hJ : Nz J) : Nz (Mt I J) := by
  obtain ⟨m, m0, hm⟩ := hI.some
  obtain ⟨k, k0, hk⟩ := hJ.some
  refine ⟨Mt.id hI.toIsId hJ.toIsId, m * k, Int.mul_pos m0 k0, ?_, ?_⟩
  · rw [ic_mul, show (m : F.R) * (k : F.R) = (k : F.R) * (m : F.R) by grind]; exact hI.toIsId.mul hm _
  · rw [ic_mul]; exact hJ.toIsId.mul hk _
/-! numbers -/
def Pl (x : F.R) : F.R → Prop := fun y => ∃ a, y = a * x
theorem Pl.id (x : F.R) : IsId (Pl x) := isId_of ⟨⟨0, by grind⟩, fun {u v} ⟨a, ha⟩ ⟨b, hb⟩ => ⟨a - b, by rw [ha, hb]; grind⟩⟩ fun a u ⟨b, hb⟩ => ⟨a * b, by rw [hb]; grind⟩
theorem Pl.self (x : F.R) : Pl x x := ⟨1, by grind⟩
theorem Pl.le {I : F.R → Prop} (hI : IsId I) {x : F.R} : (∀ y, Pl x y → I y) ↔ I x := ⟨fun h => h x (Pl.self x), fun h y ⟨a, e⟩ => e ▸ hI.mul h a⟩
theorem Pl.mul (x y : F.R) (z : F.R) : Pr (Pl x) (Pl y) z ↔ Pl (x * y) z := by
  constructor
  · intro h
    refine Pr.le (Pl.id _).toIsSub (fun u v ⟨a, ha⟩ ⟨b, hb⟩ => ⟨a * b, by rw [ha, hb]; grind⟩) h
  · intro ⟨a, h⟩
    rw [h, show a * (x * y) = (a * x) * y by grind]
    exact Pr.of ⟨a, rfl⟩ (Pl.self y)
end
end T
set_option maxRecDepth 100000
set_option maxHeartbeats 4000000
namespace T
open PySem PySem.Spec PyProof.Rows L2
/-! the primes above p, all of them, and p as their product -/
section
variable {F : NF} {r : Rg}
theorem dvp_ix (h : RF r F) {p : Int} (hp : 0 < p) : Nz (NF.Dvp (F := F) p) ∧ Ix (NF.Dvp (F := F) p) (fun _ => True) (p.toNat ^ F.n) := by
  obtain ⟨a, b, c⟩ := dg_tab h hp
  refine ⟨a.nz.congr b, ?_⟩
  have z := a.toStA.ix.congr b fun _ => Iff.rfl
  rw [dg_size F.n p F.n (Nat.le_refl _)] at z
  rwa [show (p ^ F.n).toNat = p.toNat ^ F.n by rw [← Int.natCast_inj, Int.toNat_of_nonneg (Int.pow_nonneg (by omega)), Int.natCast_pow, Int.toNat_of_nonneg (by omega)]] at z
end
end T
set_option maxRecDepth 100000
set_option maxHeartbeats 4000000
namespace T
open PySem PySem.Spec PyProof.Rows L2
/-! what `above` tells -/
abbrev Ab := List (List Int) × Int × Nat
section
variable {F : NF} {r : Rg}
structure PQ (F : NF) (r : Rg) (p : Int) (q : Ab) : Prop where
  idl : Idl F q.1
  mx : Mx (LA F q.1)
  c0 : c0 q.1 = p
  sz : szL F.n q.1 = p ^ q.2.2
  o1 : 1 ≤ q.2.1
  d1 : 1 ≤ q.2.2
  od : q.2.1.toNat * q.2.2 ≤ F.n
  gen : ∃ g, Pt p g ∧ Dvm p (PZ.of g) (PZ.of r.1) ∧ g.length = q.2.2 + 1 ∧ (∀ x, LA F q.1 x ↔ Kg F p (PZ.of g) x) ∧ m_prime_table (F.n : Int) g p = ok q.1
theorem PQ.sm {p : Int} {q : Ab} (h : PQ F r p q) (hp : p ∈ primesL) : Sm 7 (T.c0 q.1) := by
  rw [h.c0]
  obtain ⟨p1, p2⟩ := pr_bd hp
  exact Sm.of (A := 200) (by omega) (by decide +kernel)
noncomputable def absM (F : NF) (ps : List Ab) : List (F.R → Prop) := ps.flatMap fun q => List.replicate q.2.1.toNat (LA F q.1)
def sumQ : List Ab → Nat
  | [] => 0
  | q :: l => q.2.1.toNat * q.2.2 + sumQ l
structure AB (F : NF) (r : Rg) (p : Int) (ps : List Ab) : Prop where
  all : ∀ q ∈ ps, PQ F r p q
  nd : (ps.map (·.1)).Nodup
  prod : ∀ x, prI (absM F ps) x ↔ NF.Dvp p x
  sum : sumQ ps = F.n
theorem c0_prime (h : RF r F) {p : Int} (hp : p ∈ primesL) {A : List (List Int)} (hA : Idl F A) (hp' : LA F A (p : F.R)) (n1 : ¬ LA F A 1) : c0 A = p := by
  obtain ⟨k, hk⟩ := hA.toStA.c0_dvd hp'
  have c0p := hA.toStA.c0_pos
  have pr := (invP_of hp).pr
  have p0 := pr.1
  rcases pr.2 (c0 A) k (by rw [← hk]; exact Int.dvd_refl p) with z | z
  · have h1 := Int.le_of_dvd c0p z
    have h2 := Int.le_of_dvd (by omega) ⟨k, hk⟩
    omega
  · obtain ⟨j, hj⟩ := z
    have hkp : 0 < k := Int.pos_of_mul_pos_right (a := c0 A) (by rw [← hk]; omega) c0p
    have : p ≤ k := Int.le_of_dvd hkp ⟨j, hj⟩
    have c1 : c0 A ≤ 1 := by
      apply Classical.byContradiction
      intro z
      have : 2 * k ≤ c0 A * k := Int.mul_le_mul_of_nonneg_right (by omega) (by omega)
      omega
    have e1 : c0 A = 1 := by omega
    exact absurd (by have := hA.toStA.c0_in; rw [e1] at this; rwa [show ((1 : Int) : F.R) = 1 by grind] at this) n1
/-! any maximal ideal that holds p is told -/
theorem la_inj {A B : List (List Int)} (hA : Idl F A) (hB : Idl F B) (h : LA F A = LA F B) : A = B := hA.eq hB fun x => by rw [h]
theorem AB.vl {p : Int} {ps : List Ab} (hw : Whole F) (h : AB F r p ps) {q : Ab} (hq : q ∈ ps) : T.vl (LA F q.1) (NF.Dvp (F := F) p) = q.2.1.toNat := by
  classical
  rw [hw.vl_of (l := absM F ps) (fun Q hQ => by
    obtain ⟨q, hq, hr⟩ := List.mem_flatMap.mp hQ
    rw [List.eq_of_mem_replicate hr]
    exact (h.all q hq).mx) h.prod]
  have nd := h.nd
  have idl : ∀ q ∈ ps, Idl F q.1 := fun q hq => (h.all q hq).idl
  clear h
  unfold absM
  induction ps with
  | nil => exact absurd hq List.not_mem_nil
  | cons y l ih =>
    rw [List.flatMap_cons, List.count_append, List.count_replicate]
    rw [List.map_cons, List.nodup_cons] at nd
    by_cases e : q = y
    · subst e
      rw [if_pos (by simp)]
      have : List.count (LA F q.1) (l.flatMap fun q => List.replicate q.2.1.toNat (LA F q.1)) = 0 := List.count_eq_zero.mpr fun hz => by
        obtain ⟨z, hz, hr⟩ := List.mem_flatMap.mp hz
        have := la_inj (idl _ List.mem_cons_self) (idl z (List.mem_cons_of_mem _ hz)) (List.eq_of_mem_replicate hr)
        exact nd.1 (List.mem_map.mpr ⟨z, hz, this.symm⟩)
      omega
    · have hq : q ∈ l := (List.mem_cons.mp hq).resolve_left e
      rw [ih hq nd.2 fun z hz => idl z (List.mem_cons_of_mem _ hz), if_neg fun hz => ?_]
      · omega
      · have := la_inj (idl y List.mem_cons_self) (idl q (List.mem_cons_of_mem _ hq)) (by simpa using hz)
        exact nd.1 (List.mem_map.mpr ⟨q, hq, this.symm⟩)
end
end T
set_option maxRecDepth 100000
set_option maxHeartbeats 4000000
namespace T
open PySem PySem.Spec PyProof.Rows L2
/-! the turner of a prime: a number h such that h x / p is in the ring just where the prime holds x -/
section
variable {F : NF} {r : Rg}
/-- what the turner's row is -/
structure Tu (F : NF) (p : Int) (P : List (List Int)) (H : List Int) : Prop where
  len : H.length = F.n
  sm : ∀ z ∈ H, Sm 7 z
  iff : ∀ x, NF.Dvp p (F.vec H * x) ↔ LA F P x
end
end T
set_option maxRecDepth 100000
set_option maxHeartbeats 4000000
namespace T
open PySem PySem.Spec PyProof.Rows L2
/-! as many rests by the multiples of a number as its norm tells -/
section
variable {F : NF} {r : Rg}
theorem RF.norm_ne (h : RF r F) {x : List Int} {U : List (List Int)} (hx : x.length = F.n) (hU : IsTab r.1 x F.n U) (hne : F.vec x ≠ 0) : dz F.n U ≠ 0 := T.norm_ne h.of h.irr h.len h.top h.two h.four hx hU hne
theorem pl_nz (h : RF r F) {y : F.R} (hne : y ≠ 0) : Nz (Pl y) := by
  have h2 := h.two
  have hx : (NF.row y).length = F.n := NF.row_len y
  obtain ⟨U, hU⟩ := IsTab.ex (y := NF.row y) h.len h.top (by omega) hx h.of
  have hn := h.norm_ne hx hU (by rw [NF.vec_row]; exact hne)
  have hi := norm_in h hx hU (Pl.id y) (by rw [NF.vec_row]; exact Pl.self y)
  refine ⟨Pl.id y, (dz F.n U).natAbs, by omega, ?_⟩
  rcases Int.natAbs_eq (dz F.n U) with e | e
  · rw [← e]; exact hi
  · have := (Pl.id y).toIsSub.neg hi
    rwa [← ic_neg, show -dz F.n U = ((dz F.n U).natAbs : Int) by omega] at this
end
end T
set_option maxRecDepth 100000
set_option maxHeartbeats 4000000
namespace T
open PySem PySem.Spec PyProof.Rows L2
/-! how often a prime goes into a number and into an ideal -/
section
variable {F : NF} {r : Rg}
theorem pl_dvp (p : Int) (x : F.R) : Pl (p : F.R) x ↔ NF.Dvp p x := by
  rw [NF.dvp_iff]
  exact ⟨fun ⟨a, e⟩ => ⟨a, by rw [e]; grind⟩, fun ⟨a, e⟩ => ⟨a, by rw [e]; grind⟩⟩
theorem pl_mulE (x y : F.R) : Pr (Pl x) (Pl y) = Pl (x * y) := fx (Pl.mul x y)
theorem int_ne {p : Int} (hp : p ≠ 0) : (p : F.R) ≠ 0 := fun z => by
  have h0 := NF.co_e (F := F) (i := 0) F.pos 0
  rw [if_pos rfl, NF.e_zero] at h0
  have := NF.co_int_mul p (1 : F.R) 0
  rw [show (p : F.R) * 1 = (p : F.R) by grind, z, NF.co_zero, h0] at this
  omega
/-- v P (p) is one more than v P (h) -/
theorem Tu.vl (h : RF r F) {p : Int} (hp : 0 < p) {P : List (List Int)} (hP : Mx (LA F P)) {H : List Int} (hT : Tu F p P H) : F.vec H ≠ 0 ∧ T.vl (LA F P) (NF.Dvp (F := F) p) = T.vl (LA F P) (Pl (F.vec H)) + 1 := by
  have hw := h.whole
  have ne : F.vec H ≠ 0 := fun z => by
    have := (hT.iff 1).mp (by rw [z]; intro t; rw [show (0 : F.R) * 1 = 0 by grind, NF.co_zero]; exact Int.dvd_zero _)
    exact hP.ne this
  refine ⟨ne, ?_⟩
  obtain ⟨np, _⟩ := dvp_ix h hp
  have nh := pl_nz h ne
  have sub : ∀ x, Pr (LA F P) (Pl (F.vec H)) x → NF.Dvp p x := fun x hx => by
    refine Pr.le np.toIsSub (fun u v hu ⟨a, ha⟩ => ?_) hx
    have := np.toIsId.mul ((hT.iff u).mpr hu) a
    rwa [show a * (F.vec H * u) = u * (a * F.vec H) by grind, ← ha] at this
  have le := (hw.vl_le (hP.toNz.pr nh) np).mp sub
  have l1 := le _ hP
  rw [hw.vl_pr hP.toNz nh, hw.vl_self hP] at l1
  apply Classical.byContradiction
  intro c
  have : ∀ Q, Mx Q → T.vl Q (NF.Dvp (F := F) p) ≤ T.vl Q (Pl (F.vec H)) := fun Q hQ => by
    by_cases e : Q = LA F P
    · rw [e]; omega
    · have := le Q hQ
      rw [hw.vl_pr hP.toNz nh, hw.vl_other hQ hP e] at this
      omega
  have := (hw.vl_le nh np).mpr this _ (Pl.self _)
  exact hP.ne ((hT.iff 1).mp (by rwa [show F.vec H * 1 = F.vec H by grind]))
theorem Tu.step (h : RF r F) {p : Int} (hp : 0 < p) {P : List (List Int)} (hP : Mx (LA F P)) {H : List Int} (hT : Tu F p P H) {x y : F.R} (hx : x ≠ 0) (e : F.vec H * x = (p : F.R) * y) : y ≠ 0 ∧ T.vl (LA F P) (Pl y) + 1 = T.vl (LA F P) (Pl x) := by
  have hw := h.whole
  obtain ⟨hn, hv⟩ := hT.vl h hp hP
  have yn : y ≠ 0 := fun z => by
    rw [z, show (p : F.R) * 0 = 0 by grind] at e
    have := NF.domain h.irr e
    rcases this with a | a
    · exact hn a
    · exact hx a
  refine ⟨yn, ?_⟩
  have a := hw.vl_pr (pl_nz h hn) (pl_nz h hx) (LA F P)
  have b := hw.vl_pr (pl_nz h (int_ne (F := F) (p := p) (by omega))) (pl_nz h yn) (LA F P)
  rw [pl_mulE, e] at a
  rw [pl_mulE, a, fx (pl_dvp (F := F) p)] at b
  omega
end
end T
set_option maxRecDepth 100000
set_option maxHeartbeats 4000000
namespace T
open PySem PySem.Spec PyProof.Rows L2
/-! how often a prime goes into a number, told by the loop -/
section
variable {F : NF} {r : Rg}
end
end T
set_option maxRecDepth 100000
set_option maxHeartbeats 4000000
namespace T
open PySem PySem.Spec PyProof.Rows L2
/-! how often p goes into a norm; sums of numbers -/
section
variable {F : NF} {r : Rg}
theorem prI_pow {p : Int} (hp : PrI p) {m : Int} : ∀ n : Nat, p ∣ m ^ n → p ∣ m
  | 0, h => by
    rw [Int.pow_zero] at h
    have := Int.le_of_dvd (by decide) h
    have := hp.1
    omega
  | n + 1, h => by
    rw [Int.pow_succ] at h
    rcases hp.2 _ _ h with z | z
    · exact prI_pow hp n z
    · exact z
end
end T
set_option maxRecDepth 100000
set_option maxHeartbeats 4000000
namespace T
open PySem PySem.Spec PyProof.Rows L2
/-! shared helpers of the laws on primes -/
section
variable {F : NF} {r : Rg}
end
end T
set_option maxRecDepth 100000
set_option maxHeartbeats 4000000
namespace T
open PySem PySem.Spec PyProof.Rows L2
/-! a number parted into small primes -/
def prodR : List (Int × Int) → Int
  | [] => 1
  | x :: l => x.1 ^ x.2.toNat * prodR l
structure Parted (m : Int) (rows : List (Int × Int)) (rest : Int) : Prop where
  pos : 0 < rest
  eq : m = prodR rows * rest
  in_ : ∀ x ∈ rows, x.1 ∈ primesL ∧ 1 ≤ x.2
  up : rows.Pairwise fun x y => x.1 < y.1
  no : ∀ p ∈ primesL, ¬ p ∣ rest
theorem Parted.dvd {m rest : Int} {rows : List (Int × Int)} (h : Parted m rows rest) {p : Int} (hp : p ∈ primesL) : p ∣ m ↔ ∃ x ∈ rows, x.1 = p := by
  have hI := (invP_of hp).pr
  have key : ∀ l : List (Int × Int), (∀ x ∈ l, x.1 ∈ primesL ∧ 1 ≤ x.2) → (p ∣ prodR l ↔ ∃ x ∈ l, x.1 = p) := fun l => by
    induction l with
    | nil =>
      intro _
      refine ⟨fun z => ?_, fun ⟨x, hx, _⟩ => nomatch hx⟩
      have := Int.le_of_dvd (by decide) (show p ∣ 1 from z)
      have := hI.1
      omega
    | cons y l ih =>
      intro hl
      have ih := ih fun x hx => hl x (List.mem_cons_of_mem _ hx)
      obtain ⟨y1, y2⟩ := hl y List.mem_cons_self
      constructor
      · intro z
        rcases hI.2 _ _ z with z | z
        · have z := prI_pow hI _ z
          obtain ⟨k, hk⟩ := z
          have yI := (invP_of y1).pr
          have p0 := hI.1
          rcases yI.2 p k (by rw [← hk]; exact Int.dvd_refl _) with w | w
          · have a1 := Int.le_of_dvd (by omega) w
            have a2 := Int.le_of_dvd (by have := yI.1; omega) ⟨k, hk⟩
            exact ⟨y, List.mem_cons_self, by omega⟩
          · obtain ⟨j, hj⟩ := w
            have y0 := yI.1
            have : y.1 * 1 = y.1 * (p * j) := by
              rw [Int.mul_one]
              conv => lhs; rw [hk, hj]
              grind
            have e1 := Int.eq_of_mul_eq_mul_left (by omega) this
            have : p ∣ 1 := ⟨j, e1⟩
            have := Int.le_of_dvd (by decide) this
            omega
        · obtain ⟨x, hx, e⟩ := ih.mp z
          exact ⟨x, List.mem_cons_of_mem _ hx, e⟩
      · rintro ⟨x, hx, e⟩
        show p ∣ y.1 ^ y.2.toNat * prodR l
        rcases List.mem_cons.mp hx with rfl | hx
        · obtain ⟨j, hj⟩ : ∃ j, x.2.toNat = j + 1 := ⟨x.2.toNat - 1, by omega⟩
          rw [hj, Int.pow_succ, e]
          exact ⟨p ^ j * prodR l, by grind⟩
        · exact Int.dvd_mul_of_dvd_right (ih.mpr ⟨x, hx, e⟩)
  rw [h.eq]
  constructor
  · intro z
    rcases hI.2 _ _ z with z | z
    · exact (key rows h.in_).mp z
    · exact absurd z (h.no p hp)
  · intro z
    exact Int.dvd_mul_of_dvd_left ((key rows h.in_).mpr z)
end T
set_option maxRecDepth 100000
set_option maxHeartbeats 4000000
namespace T
open PySem PySem.Spec PyProof.Rows L2
/-! ideals taken many times, built, and taken into primes -/
section
variable {F : NF} {r : Rg}
/-! taken into primes -/
end
end T
set_option maxRecDepth 100000
set_option maxHeartbeats 4000000
namespace T
open PySem PySem.Spec PyProof.Rows L2
section
variable {F : NF} {r : Rg}
end
end T
set_option maxRecDepth 100000
set_option maxHeartbeats 4000000
namespace T
open PySem PySem.Spec PyProof.Rows L2
section
variable {F : NF} {r : Rg}
end
end T
set_option maxRecDepth 100000
set_option maxHeartbeats 4000000
namespace T
open PySem PySem.Spec PyProof.Rows L2
/-! the loops of powers once more: what is known of a table depends on what is left -/
end T
set_option maxRecDepth 100000
set_option maxHeartbeats 4000000
namespace T
open PySem PySem.Spec PyProof.Rows L2
/-! all ideals whose norm is a power of p -/
section
variable {γ : Type}
end
section
variable {F : NF} {r : Rg}
end
end T
set_option maxRecDepth 100000
set_option maxHeartbeats 4000000
namespace T
open PySem PySem.Spec PyProof.Rows L2
section
variable {F : NF} {r : Rg}
end
end T
set_option maxRecDepth 100000
set_option maxHeartbeats 4000000
namespace T
open PySem PySem.Spec PyProof.Rows L2
/-! all ideals of a norm -/
def c_MOST : Int := 99
section
variable {F : NF} {r : Rg}
end
end T
set_option maxRecDepth 100000
set_option maxHeartbeats 4000000
namespace T
open PySem PySem.Spec PyProof.Rows L2
section
variable {F : NF} {r : Rg}
end
end T
set_option maxRecDepth 100000
set_option maxHeartbeats 4000000
namespace T
open PySem PySem.Spec PyProof.Rows L2
section
variable {F : NF} {r : Rg}
/-! ### rows ahead of s only -/
structure Lo (n b s : Nat) (A : List (List Int)) : Prop where
  len : A.length = s
  rows : ∀ t, t < s → (A.getD t []).length = n ∧ ∀ x ∈ A.getD t [], Sm b x
  up : ∀ t j, t < s → t < j → co (A.getD t []) j = 0
  pos : ∀ t, t < s → 0 < co (A.getD t []) t
end
end T
set_option maxRecDepth 100000
set_option maxHeartbeats 4000000
namespace T
open PySem PySem.Spec PyProof.Rows L2
theorem nodup_flat {α β : Type} {f : α → List β} : ∀ {l : List α}, l.Nodup → (∀ a ∈ l, (f a).Nodup) → (∀ a ∈ l, ∀ b ∈ l, ∀ y, y ∈ f a → y ∈ f b → a = b) → (l.flatMap f).Nodup
  | [], _, _, _ => List.nodup_nil
  | a :: l, hl, h1, h2 => by
    obtain ⟨n1, n2⟩ := List.nodup_cons.mp hl
    rw [List.flatMap_cons, List.nodup_append]
    refine ⟨h1 a List.mem_cons_self, nodup_flat n2 (fun b hb => h1 b (List.mem_cons_of_mem _ hb)) (fun b hb c hc => h2 b (List.mem_cons_of_mem _ hb) c (List.mem_cons_of_mem _ hc)), fun x hx y hy e => ?_⟩
    subst e
    obtain ⟨b, hb, hy⟩ := List.mem_flatMap.mp hy
    have := h2 a List.mem_cons_self b (List.mem_cons_of_mem _ hb) x hx hy
    exact n1 (this ▸ hb)
theorem rangeL_nodup (lo : Int) (n : Nat) : (rangeL lo n).Nodup := by
  unfold rangeL
  rw [List.Nodup, List.pairwise_map]
  exact List.nodup_range.imp fun {a b} h e => h (by omega)
theorem rangeL_mem {lo x : Int} {n : Nat} : x ∈ rangeL lo n ↔ lo ≤ x ∧ x < lo + n := by
  refine ⟨mem_rangeL, fun ⟨h1, h2⟩ => ?_⟩
  unfold rangeL
  exact List.mem_map.mpr ⟨(x - lo).toNat, List.mem_range.mpr (by omega), by omega⟩
section
variable {F : NF} {r : Rg}
/-! ### the rows that a corner may have -/
def rowsB (A : List (List Int)) : Nat → List (List Int)
  | 0 => [[]]
  | j + 1 => (rowsB A j).flatMap fun row => (rangeL 0 (co (A.getD j []) j).toNat).map fun p => row ++ [p]
theorem co_snocB {l : List Int} {x : Int} {n j : Nat} (h : l.length = n) : co (l ++ [x]) j = if j < n then co l j else if j = n then x else 0 := by
  by_cases h1 : j < n
  · rw [if_pos h1, co_append_l (by omega)]
  · rw [if_neg h1]
    by_cases h2 : j = n
    · rw [if_pos h2, co_append_r (by omega), h2, h, Nat.sub_self]; rfl
    · rw [if_neg h2, co_out (by simp; omega)]
theorem rowsB_mem {A : List (List Int)} : ∀ (s : Nat) (l : List Int), l ∈ rowsB A s ↔ l.length = s ∧ ∀ j, j < s → 0 ≤ co l j ∧ co l j < co (A.getD j []) j
  | 0, l => by
    show l ∈ [[]] ↔ _
    rw [List.mem_singleton]
    exact ⟨fun h => ⟨by rw [h]; rfl, fun j hj => by omega⟩, fun h => List.eq_nil_of_length_eq_zero h.1⟩
  | s + 1, l => by
    show l ∈ (rowsB A s).flatMap _ ↔ _
    rw [List.mem_flatMap]
    constructor
    · rintro ⟨row, hr, h⟩
      obtain ⟨p, hp, rfl⟩ := List.mem_map.mp h
      obtain ⟨p1, p2⟩ := rangeL_mem.mp hp
      obtain ⟨r1, r2⟩ := (rowsB_mem s row).mp hr
      refine ⟨by simp [r1], fun j hj => ?_⟩
      rw [co_snocB r1]
      by_cases e : j < s
      · rw [if_pos e]; exact r2 j e
      · have : j = s := by omega
        subst this
        rw [if_neg e, if_pos rfl]
        omega
    · rintro ⟨h1, h2⟩
      obtain ⟨l', a, rfl⟩ : ∃ l' a, l = l' ++ [a] := ⟨l.dropLast, l.getLast (by intro z; rw [z] at h1; simp at h1), (List.dropLast_concat_getLast _).symm⟩
      have hl : l'.length = s := by simpa using h1
      refine ⟨l', (rowsB_mem s l').mpr ⟨hl, fun j hj => ?_⟩, List.mem_map.mpr ⟨a, rangeL_mem.mpr ?_, rfl⟩⟩
      · have := h2 j (by omega)
        rwa [co_snocB hl, if_pos hj] at this
      · have := h2 s (by omega)
        rw [co_snocB hl, if_neg (by omega), if_pos rfl] at this
        omega
theorem rowsB_nodup {A : List (List Int)} : ∀ s, (rowsB A s).Nodup
  | 0 => by show [([] : List Int)].Nodup; simp
  | s + 1 => by
    refine nodup_flat (rowsB_nodup s) (fun a _ => ?_) (fun a ha b hb y hy hz => ?_)
    · rw [List.Nodup, List.pairwise_map]
      exact (rangeL_nodup _ _).imp fun {x y} h e => h (by have := List.append_cancel_left e; simpa using this)
    · obtain ⟨p, _, rfl⟩ := List.mem_map.mp hy
      obtain ⟨q, _, e⟩ := List.mem_map.mp hz
      exact (List.append_inj e (by rw [((rowsB_mem s a).mp ha).1, ((rowsB_mem s b).mp hb).1])).1.symm
theorem szL_succ (s : Nat) (A : List (List Int)) : szL (s + 1) A = szL s A * co (A.getD s []) s := by
  unfold szL
  rw [foldl_range_succ]
theorem szL_congr {A B : List (List Int)} : ∀ (s : Nat), (∀ t, t < s → A.getD t [] = B.getD t []) → szL s A = szL s B
  | 0, _ => rfl
  | s + 1, h => by rw [szL_succ, szL_succ, szL_congr s fun t ht => h t (by omega), h s (by omega)]
theorem szL_pos' {A : List (List Int)} : ∀ (s : Nat), (∀ t, t < s → 0 < co (A.getD t []) t) → 0 < szL s A
  | 0, _ => by show (0 : Int) < 1; decide
  | s + 1, h => by rw [szL_succ]; exact Int.mul_pos (szL_pos' s fun t ht => h t (by omega)) (h s (by omega))
theorem szL_mono {A : List (List Int)} {s : Nat} : ∀ (d : Nat), (∀ t, t < s + d → 0 < co (A.getD t []) t) → szL s A ≤ szL (s + d) A
  | 0, _ => Int.le_refl _
  | d + 1, h => by
    have ih := szL_mono (A := A) (s := s) d fun t ht => h t (by omega)
    have p := szL_pos' (A := A) (s + d) fun t ht => h t (by omega)
    have := h (s + d) (by omega)
    rw [← Nat.add_assoc, szL_succ]
    have : szL (s + d) A * 1 ≤ szL (s + d) A * co (A.getD (s + d) []) (s + d) := Int.mul_le_mul_of_nonneg_left (by omega) (by omega)
    omega
theorem corner_le {A : List (List Int)} {s t : Nat} (h : ∀ t, t < s → 0 < co (A.getD t []) t) (ht : t < s) : co (A.getD t []) t ≤ szL s A := by
  have m := szL_mono (A := A) (s := t + 1) (s - (t + 1)) fun u hu => h u (by omega)
  rw [show t + 1 + (s - (t + 1)) = s by omega, szL_succ] at m
  have p := szL_pos' (A := A) t fun u hu => h u (by omega)
  have := h t ht
  have : 1 * co (A.getD t []) t ≤ szL t A * co (A.getD t []) t := Int.mul_le_mul_of_nonneg_right (by omega) (by omega)
  omega
def fullR (n i : Nat) (e : Int) (row : List Int) : List Int := row ++ [e] ++ List.replicate (n - 1 - i) 0
theorem fullR_mem {A : List (List Int)} {n i : Nat} (hi : i < n) {e : Int} {row : List Int} : row ∈ (rowsB A i).map (fullR n i e) ↔ row.length = n ∧ (∀ j, i < j → co row j = 0) ∧ co row i = e ∧ ∀ j, j < i → 0 ≤ co row j ∧ co row j < co (A.getD j []) j := by
  have cf : ∀ (l : List Int), l.length = i → ∀ j, co (fullR n i e l) j = if j < i then co l j else if j = i then e else 0 := fun l hl j => by
    unfold fullR
    rw [co_app0, co_snocB hl]
  constructor
  · intro h
    obtain ⟨l, hl, rfl⟩ := List.mem_map.mp h
    obtain ⟨l1, l2⟩ := (rowsB_mem i l).mp hl
    refine ⟨by unfold fullR; simp; omega, fun j hj => ?_, ?_, fun j hj => ?_⟩
    · rw [cf l l1, if_neg (by omega), if_neg (by omega)]
    · rw [cf l l1, if_neg (by omega), if_pos rfl]
    · rw [cf l l1, if_pos hj]; exact l2 j hj
  · rintro ⟨h1, h2, h3, h4⟩
    have lt : (row.take i).length = i := by rw [List.length_take]; omega
    have ct : ∀ j, j < i → co (row.take i) j = co row j := fun j hj => by
      unfold co
      rw [List.getElem?_take, if_pos hj]
    refine List.mem_map.mpr ⟨row.take i, (rowsB_mem i _).mpr ⟨lt, fun j hj => by rw [ct j hj]; exact h4 j hj⟩, ?_⟩
    refine row_ext (n := n) (by unfold fullR; simp; omega) h1 fun t ht => ?_
    rw [cf _ lt]
    by_cases e1 : t < i
    · rw [if_pos e1, ct t e1]
    · rw [if_neg e1]
      by_cases e2 : t = i
      · rw [if_pos e2, e2, h3]
      · rw [if_neg e2, h2 t (by omega)]
end
end T
set_option maxRecDepth 100000
set_option maxHeartbeats 4000000
namespace T
open PySem PySem.Spec PyProof.Rows L2
section
variable {F : NF} {r : Rg}
theorem mem_congr {B C : Nat → F.R} : ∀ (s : Nat) (x : F.R), (∀ t, t < s → B t = C t) → (Mem B s x ↔ Mem C s x)
  | 0, _, _ => Iff.rfl
  | s + 1, x, h => by
    show (_ ∧ _) ↔ (_ ∧ _)
    rw [h s (by omega), mem_congr s _ fun t ht => h t (by omega)]
theorem getD_l {A : List (List Int)} {row : List Int} {t : Nat} (h : t < A.length) : (A ++ [row]).getD t [] = A.getD t [] := by
  rw [List.getD_eq_getElem?_getD, List.getD_eq_getElem?_getD, List.getElem?_append_left h]
theorem getD_r {A : List (List Int)} {row : List Int} {t : Nat} (h : A.length = t) : (A ++ [row]).getD t [] = row := by
  rw [List.getD_eq_getElem?_getD, List.getElem?_append_right (by omega), h, Nat.sub_self]; rfl
/-- the first i rows of a table, with what is left of m -/
structure PT (F : NF) (m : Int) (i : Nat) (A : List (List Int)) (q : Int) : Prop where
  len : A.length = i
  rows : ∀ t, t < i → (A.getD t []).length = F.n
  up : ∀ t j, t < i → t < j → co (A.getD t []) j = 0
  pos : ∀ t, t < i → 0 < co (A.getD t []) t
  red : ∀ t j, t < i → j < t → 0 ≤ co (A.getD t []) j ∧ co (A.getD t []) j < co (A.getD j []) j
  cl : ∀ t, t + 1 < i → Mem (tv F A) (t + 2) (F.cl PZ.X * tv F A t)
  sz : szL i A * q = m
  q0 : 0 < q
def chk (F : NF) (i : Nat) (A : List (List Int)) (row : List Int) : Prop := i = 0 ∨ Mem (tv F (A ++ [row])) (i + 1) (F.cl PZ.X * tv F A (i - 1))
theorem PT.snoc {m q : Int} {i : Nat} {A : List (List Int)} {row : List Int} : PT F m (i + 1) (A ++ [row]) q ↔ PT F m i A (q * co row i) ∧ (row.length = F.n ∧ (∀ j, i < j → co row j = 0) ∧ ∀ j, j < i → 0 ≤ co row j ∧ co row j < co (A.getD j []) j) ∧ 0 < co row i ∧ chk F i A row ∧ 0 < q := by
  have tvl : ∀ t, t < A.length → tv F (A ++ [row]) t = tv F A t := fun t ht => by unfold tv; rw [getD_l ht]
  constructor
  · intro h
    have hl : A.length = i := by simpa using h.len
    have gl : ∀ t, t < i → (A ++ [row]).getD t [] = A.getD t [] := fun t ht => getD_l (by omega)
    have gr : (A ++ [row]).getD i [] = row := getD_r hl
    have p := h.pos i (by omega)
    rw [gr] at p
    refine ⟨⟨hl, fun t ht => ?_, fun t j ht hj => ?_, fun t ht => ?_, fun t j ht hj => ?_, fun t ht => ?_, ?_, Int.mul_pos h.q0 p⟩, ⟨?_, fun j hj => ?_, fun j hj => ?_⟩, p, ?_, h.q0⟩
    · rw [← gl t ht]; exact h.rows t (by omega)
    · rw [← gl t ht]; exact h.up t j (by omega) hj
    · rw [← gl t ht]; exact h.pos t (by omega)
    · rw [← gl t ht, ← gl j (by omega)]; exact h.red t j (by omega) hj
    · have := h.cl t (by omega)
      rw [tvl t (by omega)] at this
      exact (mem_congr (t + 2) _ fun u hu => tvl u (by omega)).mp this
    · have := h.sz
      rw [szL_succ, gr, szL_congr (B := A) i fun t ht => gl t ht] at this
      rw [← this, Int.mul_assoc, Int.mul_comm q]
    · rw [← gr]; exact h.rows i (by omega)
    · rw [← gr]; exact h.up i j (by omega) hj
    · have := h.red i j (by omega) hj
      rwa [gr, gl j hj] at this
    · by_cases e : i = 0
      · exact .inl e
      · right
        have := h.cl (i - 1) (by omega)
        rwa [tvl (i - 1) (by omega), show i - 1 + 2 = i + 1 by omega] at this
  · rintro ⟨h, ⟨r1, r2, r3⟩, p, c, q0⟩
    have hl := h.len
    have gl : ∀ t, t < i → (A ++ [row]).getD t [] = A.getD t [] := fun t ht => getD_l (by omega)
    have gr : (A ++ [row]).getD i [] = row := getD_r hl
    have cs : ∀ t, t < i + 1 → t < i ∨ t = i := fun t ht => by omega
    refine ⟨by simp [hl], fun t ht => ?_, fun t j ht hj => ?_, fun t ht => ?_, fun t j ht hj => ?_, fun t ht => ?_, ?_, q0⟩
    · rcases cs t ht with e | e
      · rw [gl t e]; exact h.rows t e
      · rw [e, gr]; exact r1
    · rcases cs t ht with e | e
      · rw [gl t e]; exact h.up t j e hj
      · subst e; rw [gr]; exact r2 j hj
    · rcases cs t ht with e | e
      · rw [gl t e]; exact h.pos t e
      · rw [e, gr]; exact p
    · rw [gl j (by omega)]
      rcases cs t ht with e | e
      · rw [gl t e]; exact h.red t j e hj
      · subst e; rw [gr]; exact r3 j hj
    · rw [tvl t (by omega)]
      by_cases e : t + 1 < i
      · exact (mem_congr (t + 2) _ fun u hu => (tvl u (by omega)).symm).mp (h.cl t e)
      · have : t = i - 1 := by omega
        subst this
        rcases c with c | c
        · omega
        · rwa [show i - 1 + 2 = i + 1 by omega]
    · have := h.sz
      rw [szL_succ, gr, szL_congr (B := A) i fun t ht => gl t ht, ← this, Int.mul_assoc, Int.mul_comm q]
noncomputable def endsL (n i : Nat) (q : Int) : List Int := if i = n - 1 then [q] else (rangeL 1 q.toNat).filter fun d => decide (q % d = 0)
open Classical in
noncomputable def growL (F : NF) (i : Nat) (x : List (List Int) × Int) : List (List (List Int) × Int) :=
  (endsL F.n i x.2).flatMap fun e => (((rowsB x.1 i).map (fullR F.n i e)).filter fun row => decide (chk F i x.1 row)).map fun row => (x.1 ++ [row], x.2 / e)
theorem endsL_mem {n i : Nat} {q e : Int} (hq : 0 < q) : e ∈ endsL n i q ↔ 0 < e ∧ e ∣ q ∧ (i = n - 1 → e = q) := by
  unfold endsL
  by_cases h : i = n - 1
  · rw [if_pos h, List.mem_singleton]
    constructor
    · rintro rfl; exact ⟨hq, Int.dvd_refl _, fun _ => rfl⟩
    · exact fun ⟨_, _, z⟩ => z h
  · rw [if_neg h, List.mem_filter, rangeL_mem, decide_eq_true_eq]
    constructor
    · rintro ⟨⟨h1, h2⟩, h3⟩
      exact ⟨by omega, Int.dvd_of_emod_eq_zero h3, fun z => absurd z h⟩
    · rintro ⟨h1, h2, _⟩
      have := Int.le_of_dvd hq h2
      exact ⟨⟨by omega, by omega⟩, Int.emod_eq_zero_of_dvd h2⟩
theorem endsL_nodup {n i : Nat} {q : Int} : (endsL n i q).Nodup := by
  unfold endsL
  by_cases h : i = n - 1
  · rw [if_pos h]; simp
  · rw [if_neg h]; exact (rangeL_nodup _ _).filter _
/-- what stands after i rows -/
structure Stg (F : NF) (m : Int) (i : Nat) (found : List (List (List Int) × Int)) : Prop where
  nd : found.Nodup
  mem : ∀ A q, (A, q) ∈ found ↔ PT F m i A q ∧ (i = F.n → q = 1)
theorem growL_mem {m : Int} {i : Nat} (hi : i < F.n) {A A' : List (List Int)} {q q' : Int} (h : PT F m i A q) : (A', q') ∈ growL F i (A, q) ↔ ∃ row, A' = A ++ [row] ∧ PT F m (i + 1) (A ++ [row]) q' ∧ q = q' * co row i ∧ (i + 1 = F.n → q' = 1) := by
  classical
  unfold growL
  rw [List.mem_flatMap]
  constructor
  · rintro ⟨e, he, hm⟩
    obtain ⟨e1, e2, e3⟩ := (endsL_mem h.q0).mp he
    obtain ⟨row, hr, eq⟩ := List.mem_map.mp hm
    obtain ⟨hr, hc⟩ := List.mem_filter.mp hr
    obtain ⟨r1, r2, r3, r4⟩ := (fullR_mem hi).mp hr
    obtain ⟨rfl, rfl⟩ := Prod.mk.inj eq
    have eq2 : q / e * e = q := Int.ediv_mul_cancel e2
    have q0 := h.q0
    refine ⟨row, rfl, PT.snoc.mpr ⟨by rw [r3, eq2]; exact h, ⟨r1, r2, r4⟩, by omega, of_decide_eq_true hc, ?_⟩, by rw [r3, eq2], fun z => ?_⟩
    · show 0 < q / e
      exact Int.pos_of_mul_pos_right (show 0 < e * (q / e) by rw [Int.mul_comm, eq2]; exact q0) e1
    · show q / e = 1
      rw [e3 (by omega), Int.ediv_self (by omega)]
  · rintro ⟨row, rfl, hp, rfl, h1⟩
    obtain ⟨h2, ⟨r1, r2, r3⟩, r4, r5, r6⟩ := PT.snoc.mp hp
    refine ⟨co row i, (endsL_mem h.q0).mpr ⟨r4, Int.dvd_mul_left _ _, fun z => by rw [h1 (by omega), Int.one_mul]⟩, List.mem_map.mpr ⟨row, List.mem_filter.mpr ⟨(fullR_mem hi).mpr ⟨r1, r2, rfl, r3⟩, decide_eq_true r5⟩, ?_⟩⟩
    show (A ++ [row], q' * co row i / co row i) = _
    rw [Int.mul_ediv_cancel _ (by omega)]
theorem Stg.grow {m : Int} {i : Nat} {found : List (List (List Int) × Int)} (h : Stg F m i found) (hi : i < F.n) : Stg F m (i + 1) (found.flatMap (growL F i)) := by
  classical
  constructor
  · refine nodup_flat h.nd (fun x hx => ?_) (fun x hx y hy z hz hw => ?_)
    · obtain ⟨A, q⟩ := x
      have hp := ((h.mem A q).mp hx).1
      unfold growL
      refine nodup_flat endsL_nodup (fun e he => ?_) (fun e he e' he' z hz hw => ?_)
      · have : ((rowsB A i).map (fullR F.n i e)).Nodup := by
          rw [List.Nodup, List.pairwise_map]
          refine (rowsB_nodup i).imp_of_mem fun {a b} ha hb h e => h ?_
          unfold fullR at e
          rw [List.append_assoc, List.append_assoc] at e
          exact (List.append_inj e (by rw [((rowsB_mem i a).mp ha).1, ((rowsB_mem i b).mp hb).1])).1
        rw [List.Nodup, List.pairwise_map]
        refine (this.filter _).imp fun {a b} h e => h ?_
        have := List.append_cancel_left (Prod.mk.inj e).1
        simpa using this
      · obtain ⟨row, hr, rfl⟩ := List.mem_map.mp hz
        obtain ⟨row', hr', eq⟩ := List.mem_map.mp hw
        have : row' = row := by
          have := List.append_cancel_left (Prod.mk.inj eq).1
          simpa using this
        subst this
        have a := ((fullR_mem hi).mp (List.mem_filter.mp hr).1).2.2.1
        have b := ((fullR_mem hi).mp (List.mem_filter.mp hr').1).2.2.1
        rw [← a, ← b]
    · obtain ⟨A, q⟩ := x
      obtain ⟨B, p⟩ := y
      obtain ⟨C, c⟩ := z
      have ha := ((h.mem A q).mp hx).1
      have hb := ((h.mem B p).mp hy).1
      obtain ⟨row, e1, _, e2, _⟩ := (growL_mem hi ha).mp hz
      obtain ⟨row', e1', _, e2', _⟩ := (growL_mem hi hb).mp hw
      rw [e1] at e1'
      obtain ⟨f1, f2⟩ := List.append_inj e1' (by rw [ha.len, hb.len])
      have : row = row' := by simpa using f2
      subst this
      rw [f1, e2, e2']
  · intro A q
    rw [List.mem_flatMap]
    constructor
    · rintro ⟨⟨B, p⟩, hy, hz⟩
      obtain ⟨row, rfl, h1, _, h2⟩ := (growL_mem hi ((h.mem B p).mp hy).1).mp hz
      exact ⟨h1, h2⟩
    · rintro ⟨hp, h1⟩
      have hl := hp.len
      obtain ⟨B, row, rfl⟩ : ∃ l' a, A = l' ++ [a] := ⟨A.dropLast, A.getLast (by intro z; rw [z] at hl; simp at hl), (List.dropLast_concat_getLast _).symm⟩
      have hb := (PT.snoc.mp hp).1
      exact ⟨(B, q * co row i), (h.mem _ _).mpr ⟨hb, fun z => by omega⟩, (growL_mem hi hb).mpr ⟨row, rfl, hp, rfl, h1⟩⟩
end
end T
set_option maxRecDepth 100000
set_option maxHeartbeats 4000000
namespace T
open PySem PySem.Spec PyProof.Rows L2
section
variable {F : NF} {r : Rg}
theorem PT.le {m q : Int} {i : Nat} {A : List (List Int)} (h : PT F m i A q) : szL i A ≤ m ∧ q ≤ m := by
  have p := szL_pos' i h.pos
  have q0 := h.q0
  have := h.sz
  have a : szL i A * 1 ≤ szL i A * q := Int.mul_le_mul_of_nonneg_left (by omega) (by omega)
  have b : 1 * q ≤ szL i A * q := Int.mul_le_mul_of_nonneg_right (by omega) (by omega)
  omega
theorem mem_co {l : List Int} {x : Int} (h : x ∈ l) : ∃ j, j < l.length ∧ x = co l j := by
  obtain ⟨j, hj⟩ := List.getElem?_of_mem h
  exact ⟨j, (List.getElem?_eq_some_iff.mp hj).1, (co_some hj).symm⟩
theorem sm99 {x : Int} (h0 : 0 ≤ x) (h1 : x ≤ 99) : Sm 7 x := Sm.of (A := 99) (by omega)
theorem PT.lo {m q : Int} {i : Nat} {A : List (List Int)} (h : PT F m i A q) (hm : m ≤ 99) : Lo F.n 7 i A := by
  have z := h.le.1
  refine ⟨h.len, fun t ht => ⟨h.rows t ht, fun x hx => ?_⟩, h.up, h.pos⟩
  obtain ⟨j, hj, rfl⟩ := mem_co hx
  have cc : ∀ u, u < i → co (A.getD u []) u ≤ 99 := fun u hu => by have := corner_le h.pos hu; omega
  rcases Nat.lt_trichotomy j t with e | e | e
  · have := h.red t j ht e
    have := cc j (by omega)
    exact sm99 (by omega) (by omega)
  · subst e
    have := h.pos j ht
    exact sm99 (by omega) (cc j ht)
  · rw [h.up t j ht e]
    exact sm99 (by omega) (by omega)
theorem Lo.snoc {i : Nat} {A : List (List Int)} {row : List Int} {n : Nat} (h : Lo n 7 i A) (h1 : row.length = n) (h2 : ∀ j, i < j → co row j = 0) (h3 : 0 < co row i) (h3' : co row i ≤ 99) (h4 : ∀ j, j < i → 0 ≤ co row j ∧ co row j < co (A.getD j []) j) (cc : ∀ u, u < i → co (A.getD u []) u ≤ 99) : Lo n 7 (i + 1) (A ++ [row]) := by
  have hl := h.len
  have gl : ∀ t, t < i → (A ++ [row]).getD t [] = A.getD t [] := fun t ht => getD_l (by omega)
  have gr : (A ++ [row]).getD i [] = row := getD_r hl
  have cs : ∀ t, t < i + 1 → t < i ∨ t = i := fun t ht => by omega
  refine ⟨by simp [hl], fun t ht => ?_, fun t j ht hj => ?_, fun t ht => ?_⟩
  · rcases cs t ht with e | e
    · rw [gl t e]; exact h.rows t e
    · rw [e, gr]
      refine ⟨h1, fun x hx => ?_⟩
      obtain ⟨j, hj, rfl⟩ := mem_co hx
      rcases Nat.lt_trichotomy j i with e | e | e
      · have a := h4 j e
        have := cc j e
        exact sm99 a.1 (by omega)
      · subst e; exact sm99 (by omega) h3'
      · rw [h2 j e]; exact sm99 (by omega) (by omega)
  · rcases cs t ht with e | e
    · rw [gl t e]; exact h.up t j e hj
    · subst e; rw [gr]; exact h2 j hj
  · rcases cs t ht with e | e
    · rw [gl t e]; exact h.pos t e
    · rw [e, gr]; exact h3
end
end T
set_option maxRecDepth 100000
set_option maxHeartbeats 4000000
namespace T
open PySem PySem.Spec PyProof.Rows L2
section
variable {p r : Int}
/-! ### values and quotients -/
end
end T
set_option maxRecDepth 100000
set_option maxHeartbeats 4000000
namespace T
open PySem PySem.Spec PyProof.Rows L2
section
variable {p : Int}
end
end T
set_option maxRecDepth 100000
set_option maxHeartbeats 4000000
namespace T
open PySem PySem.Spec PyProof.Rows L2
section
variable {p : Int}
end
end T
set_option maxRecDepth 100000
set_option maxHeartbeats 4000000
namespace T
open PySem PySem.Spec PyProof.Rows L2
section
variable {p : Int}
end
end T
set_option maxRecDepth 100000
set_option maxHeartbeats 4000000
namespace T
open PySem PySem.Spec PyProof.Rows L2
section
variable {F : NF} {r : Rg}
end
end T
set_option maxRecDepth 100000
set_option maxHeartbeats 4000000
namespace T
open PySem PySem.Spec PyProof.Rows L2
section
variable {F : NF} {r : Rg}
end
end T
set_option maxRecDepth 100000
set_option maxHeartbeats 4000000
namespace T
open PySem PySem.Spec PyProof.Rows L2
/-! ### which table is the lesser -/
section
variable {F : NF} {r : Rg}
end
end T
set_option maxRecDepth 100000
set_option maxHeartbeats 4000000
namespace T
/-! ### steps of degree two: (a, u) with 4 a | u u - D -/
structure Fm (D a u : Int) : Prop where
  pos : 0 < a
  dvd : 4 * a ∣ u * u - D
/-- the greatest whole number with the rest of v by 2 a, up to top -/
def brU (top a v : Int) : Int := top - (top - v) % (2 * a)
theorem brU_bd {top a v : Int} (ha : 0 < a) : top - 2 * a < brU top a v ∧ brU top a v ≤ top := by
  unfold brU
  have h1 := Int.emod_nonneg (top - v) (show 2 * a ≠ 0 by omega)
  have h2 := Int.emod_lt_of_pos (top - v) (show 0 < 2 * a by omega)
  omega
theorem brU_rest {top a v : Int} : 2 * a ∣ brU top a v - v := by
  unfold brU
  have := Int.emod_add_mul_ediv (top - v) (2 * a)
  exact ⟨(top - v) / (2 * a), by omega⟩
theorem brU_uniq {top a v w : Int} (ha : 0 < a) (h : 2 * a ∣ w - v) (h1 : top - 2 * a < w) (h2 : w ≤ top) : brU top a v = w := by
  obtain ⟨b1, b2⟩ := brU_bd (top := top) (v := v) ha
  obtain ⟨k, hk⟩ := brU_rest (top := top) (a := a) (v := v)
  obtain ⟨j, hj⟩ := h
  have e : brU top a v - w = 2 * a * (k - j) := by rw [Int.mul_sub]; omega
  have : k - j = 0 := by
    apply Classical.byContradiction
    intro z
    rcases Int.lt_or_gt_of_ne z with q | q
    · have : 2 * a * (k - j) ≤ 2 * a * (-1) := Int.mul_le_mul_of_nonneg_left (by omega) (by omega)
      omega
    · have : 2 * a * 1 ≤ 2 * a * (k - j) := Int.mul_le_mul_of_nonneg_left (by omega) (by omega)
      omega
  rw [this, Int.mul_zero] at e
  omega
theorem Fm.congr {D a u v : Int} (h : Fm D a u) (e : 2 * a ∣ v - u ∨ 2 * a ∣ v + u) : Fm D a v := by
  refine ⟨h.pos, ?_⟩
  obtain ⟨k, hk⟩ := h.dvd
  rcases e with ⟨j, hj⟩ | ⟨j, hj⟩
  · have : v = u + 2 * a * j := by omega
    exact ⟨k + j * u + a * j * j, by rw [this]; grind⟩
  · have : v = 2 * a * j - u := by omega
    exact ⟨k - j * u + a * j * j, by rw [this]; grind⟩
/-- the step's a -/
def stA (D a u : Int) : Int := ((u * u - D).natAbs : Int) / (4 * a)
theorem stA_eq {D a u : Int} (h : Fm D a u) : 4 * a * stA D a u = ((u * u - D).natAbs : Int) := by
  unfold stA
  exact Int.mul_ediv_cancel' (Int.dvd_natAbs.mpr h.dvd)
/-- D lies between two squares -/
structure Dq (D s : Int) : Prop where
  s0 : 0 < s
  lo : s * s < D
  hi : D < (s + 1) * (s + 1)
  par : ∀ u, u * u ≠ D
theorem stA_fm {D a u : Int} (h : Fm D a u) (hD : u * u ≠ D) : 0 < stA D a u ∧ Fm D (stA D a u) u := by
  have e := stA_eq h
  have hp := h.pos
  have n0 : 0 < ((u * u - D).natAbs : Int) := by omega
  have p : 0 < stA D a u := by
    apply Classical.byContradiction
    intro z
    have : 4 * a * stA D a u ≤ 4 * a * 0 := Int.mul_le_mul_of_nonneg_left (by omega) (by omega)
    omega
  refine ⟨p, p, ?_⟩
  have : 4 * stA D a u ∣ ((u * u - D).natAbs : Int) := ⟨a, by rw [← e]; grind⟩
  exact Int.dvd_natAbs.mp this
/-- the step -/
def stpQ (D s : Int) (x : Int × Int) : Int × Int := (stA D x.1 x.2, brU (max (stA D x.1 x.2) s) (stA D x.1 x.2) (-x.2))
theorem stpQ_fm {D s : Int} {x : Int × Int} (h : Fm D x.1 x.2) (hD : x.2 * x.2 ≠ D) : Fm D (stpQ D s x).1 (stpQ D s x).2 := by
  obtain ⟨p, f⟩ := stA_fm h hD
  refine f.congr (.inr ?_)
  have := brU_rest (top := max (stA D x.1 x.2) s) (a := stA D x.1 x.2) (v := -x.2)
  rwa [show ∀ y : Int, y - -x.2 = y + x.2 from fun y => by omega] at this
/-- reduced -/
structure Rd (D s : Int) (x : Int × Int) : Prop where
  fm : Fm D x.1 x.2
  le : x.1 ≤ s
  lo : s - 2 * x.1 < x.2
  hi : x.2 ≤ s
  far : 2 * x.1 - x.2 ≤ s
theorem Rd.upos {D s : Int} {x : Int × Int} (h : Rd D s x) : 0 < x.2 := by
  have := h.lo
  have := h.far
  omega
/-- what the step of a reduced one has -/
theorem Rd.step {D s : Int} (q : Dq D s) {x : Int × Int} (h : Rd D s x) : Rd D s (stpQ D s x) ∧ s - x.2 < 2 * (stpQ D s x).1 ∧ 2 * (stpQ D s x).1 ≤ s + x.2 ∧ 4 * x.1 * (stpQ D s x).1 = D - x.2 * x.2 := by
  have up := h.upos
  have ap := h.fm.pos
  have h1 := h.lo
  have h2 := h.hi
  have h3 := h.far
  have s0 := q.s0
  have uu : x.2 * x.2 ≤ s * s := Int.mul_le_mul h2 h2 (by omega) (by omega)
  have lo := q.lo
  obtain ⟨p, f⟩ := stA_fm h.fm (q.par x.2)
  have e := stA_eq h.fm
  have e' : 4 * x.1 * stA D x.1 x.2 = D - x.2 * x.2 := by omega
  have g1 : s - x.2 < 2 * stA D x.1 x.2 := by
    apply Classical.byContradiction
    intro z
    have a1 : (2 * x.1) * (2 * stA D x.1 x.2) ≤ (2 * x.1) * (s - x.2) := Int.mul_le_mul_of_nonneg_left (by omega) (by omega)
    have a2 : (2 * x.1) * (s - x.2) ≤ (s + x.2) * (s - x.2) := Int.mul_le_mul_of_nonneg_right (by omega) (by omega)
    have a3 : (s + x.2) * (s - x.2) = s * s - x.2 * x.2 := by grind
    have a4 : (2 * x.1) * (2 * stA D x.1 x.2) = 4 * x.1 * stA D x.1 x.2 := by grind
    omega
  have g2 : 2 * stA D x.1 x.2 ≤ s + x.2 := by
    apply Classical.byContradiction
    intro z
    have a1 : (2 * x.1) * (s + 1 + x.2) ≤ (2 * x.1) * (2 * stA D x.1 x.2) := Int.mul_le_mul_of_nonneg_left (by omega) (by omega)
    have a2 : (s + 1 - x.2) * (s + 1 + x.2) ≤ (2 * x.1) * (s + 1 + x.2) := Int.mul_le_mul_of_nonneg_right (by omega) (by omega)
    have a3 : (s + 1 - x.2) * (s + 1 + x.2) = (s + 1) * (s + 1) - x.2 * x.2 := by grind
    have a4 : (2 * x.1) * (2 * stA D x.1 x.2) = 4 * x.1 * stA D x.1 x.2 := by grind
    have hi := q.hi
    omega
  have as : stA D x.1 x.2 ≤ s := by omega
  have mx : max (stA D x.1 x.2) s = s := by omega
  obtain ⟨b1, b2⟩ := brU_bd (top := s) (v := -x.2) p
  have far : 2 * stA D x.1 x.2 - x.2 ≤ brU s (stA D x.1 x.2) (-x.2) := by
    obtain ⟨k, hk⟩ := brU_rest (top := s) (a := stA D x.1 x.2) (v := -x.2)
    have k1 : 1 ≤ k := by
      apply Classical.byContradiction
      intro z
      have : 2 * stA D x.1 x.2 * k ≤ 2 * stA D x.1 x.2 * 0 := Int.mul_le_mul_of_nonneg_left (by omega) (by omega)
      omega
    have : 2 * stA D x.1 x.2 * 1 ≤ 2 * stA D x.1 x.2 * k := Int.mul_le_mul_of_nonneg_left (by omega) (by omega)
    omega
  have fm := stpQ_fm (s := s) h.fm (q.par x.2)
  have es : stpQ D s x = (stA D x.1 x.2, brU s (stA D x.1 x.2) (-x.2)) := by unfold stpQ; rw [mx]
  rw [es] at fm ⊢
  exact ⟨⟨fm, as, b1, b2, by dsimp only; omega⟩, g1, g2, e'⟩
/-- the step takes no two reduced ones to one -/
theorem Rd.inj {D s : Int} (q : Dq D s) {x y : Int × Int} (hx : Rd D s x) (hy : Rd D s y) (e : stpQ D s x = stpQ D s y) : x = y := by
  obtain ⟨r1, a1, b1, c1⟩ := hx.step q
  obtain ⟨r2, a2, b2, c2⟩ := hy.step q
  have rx : 2 * (stpQ D s x).1 ∣ (stpQ D s x).2 + x.2 := by
    have := brU_rest (top := max (stA D x.1 x.2) s) (a := stA D x.1 x.2) (v := -x.2)
    rwa [show ∀ z : Int, z - -x.2 = z + x.2 from fun z => by omega] at this
  have ry : 2 * (stpQ D s y).1 ∣ (stpQ D s y).2 + y.2 := by
    have := brU_rest (top := max (stA D y.1 y.2) s) (a := stA D y.1 y.2) (v := -y.2)
    rwa [show ∀ z : Int, z - -y.2 = z + y.2 from fun z => by omega] at this
  rw [← e] at ry a2 c2
  have p := r1.fm.pos
  have ue : x.2 = y.2 := by
    have d := Int.dvd_sub rx ry
    rw [show (stpQ D s x).2 + x.2 - ((stpQ D s x).2 + y.2) = x.2 - y.2 by omega] at d
    have h1 := brU_uniq (top := s) (v := y.2) p d (by omega) hx.hi
    have h2 := brU_uniq (top := s) (v := y.2) (w := y.2) p ⟨0, by omega⟩ (by omega) hy.hi
    rw [← h1, h2]
  have ae : x.1 = y.1 := by
    rw [ue] at c1
    have : (4 * (stpQ D s x).1) * x.1 = (4 * (stpQ D s x).1) * y.1 := by
      have k1 : (4 * (stpQ D s x).1) * x.1 = 4 * x.1 * (stpQ D s x).1 := by grind
      have k2 : (4 * (stpQ D s x).1) * y.1 = 4 * y.1 * (stpQ D s x).1 := by grind
      omega
    exact Int.eq_of_mul_eq_mul_left (by omega) this
  exact Prod.ext ae ue
end T
set_option maxRecDepth 100000
set_option maxHeartbeats 4000000
namespace T
/-! ### the way to a reduced one, and round -/
/-- u brought to the window of its a -/
structure Br (D s : Int) (x : Int × Int) : Prop where
  fm : Fm D x.1 x.2
  lo : max x.1 s - 2 * x.1 < x.2
  hi : x.2 ≤ max x.1 s
theorem Br.rd {D s : Int} {x : Int × Int} (h : Br D s x) (h1 : x.1 ≤ s) (h2 : 2 * x.1 - x.2 ≤ s) : Rd D s x := by
  have a := h.lo
  have b := h.hi
  rw [show max x.1 s = s by omega] at a b
  exact ⟨h.fm, h1, a, b, h2⟩
theorem Rd.br {D s : Int} {x : Int × Int} (h : Rd D s x) : Br D s x := by
  have a := h.lo
  have b := h.hi
  have c := h.le
  exact ⟨h.fm, by rw [show max x.1 s = s by omega]; exact a, by rw [show max x.1 s = s by omega]; exact b⟩
/-! the walk round -/
def itQ (D s : Int) (x : Int × Int) : Nat → Int × Int
  | 0 => x
  | k + 1 => stpQ D s (itQ D s x k)
theorem Rd.it {D s : Int} (q : Dq D s) {x : Int × Int} (h : Rd D s x) : ∀ k, Rd D s (itQ D s x k)
  | 0 => h
  | k + 1 => ((Rd.it q h k).step q).1
theorem Rd.back {D s : Int} (q : Dq D s) {x : Int × Int} (h : Rd D s x) : ∀ (i k : Nat), itQ D s x (i + k) = itQ D s x i → itQ D s x k = x
  | 0, k, e => by rw [Nat.zero_add] at e; exact e
  | i + 1, k, e => by
    have e : stpQ D s (itQ D s x (i + k)) = stpQ D s (itQ D s x i) := by
      have e := e
      rw [show i + 1 + k = i + k + 1 by omega] at e
      exact e
    exact Rd.back q h i k (Rd.inj q (Rd.it q h _) (Rd.it q h _) e)
theorem nd_len : ∀ (N : Nat) (l : List Nat), l.Nodup → (∀ x ∈ l, x < N) → l.length ≤ N
  | 0, [], _, _ => Nat.le_refl _
  | 0, a :: l, _, h => absurd (h a List.mem_cons_self) (by omega)
  | N + 1, l, nd, h => by
    by_cases c : N ∈ l
    · have := nd_len N (l.erase N) (nd.erase N) fun x hx => by
        have h1 := h x (List.mem_of_mem_erase hx)
        have h2 : x ≠ N := fun z => by
          rw [z] at hx
          exact (nd.not_mem_erase) hx
        omega
      rw [List.length_erase_of_mem c] at this
      omega
    · have := nd_len N l nd fun x hx => by
        have h1 := h x hx
        have h2 : x ≠ N := fun z => c (z ▸ hx)
        omega
      omega
/-- a number for a pair: u falls by twos -/
def cdQ (s : Int) (x : Int × Int) : Nat := (x.1 * (x.1 - 1) + 2 * ((s - x.2) / 2)).toNat
theorem cdQ_bd {D s : Int} {x : Int × Int} (h : Rd D s x) : x.1 * (x.1 - 1) ≤ (cdQ s x : Int) ∧ (cdQ s x : Int) < x.1 * (x.1 + 1) ∧ (cdQ s x : Int) = x.1 * (x.1 - 1) + 2 * ((s - x.2) / 2) := by
  have := h.fm.pos
  have := h.hi
  have := h.lo
  have a1 : 0 ≤ x.1 * (x.1 - 1) := Int.mul_nonneg (by omega) (by omega)
  have a2 : x.1 * (x.1 + 1) = x.1 * (x.1 - 1) + 2 * x.1 := by grind
  unfold cdQ
  omega
theorem cdQ_even {D s : Int} {x : Int × Int} (h : Rd D s x) : cdQ s x % 2 = 0 := by
  obtain ⟨_, _, e⟩ := cdQ_bd h
  have : x.1 * (x.1 - 1) % 2 = 0 := by
    have : x.1 % 2 = 0 ∨ x.1 % 2 = 1 := by omega
    rcases this with z | z
    · rw [Int.mul_emod, z]; simp
    · rw [Int.mul_emod, show (x.1 - 1) % 2 = 0 by omega]; simp
  omega
theorem cdQ_lt {D s : Int} {x : Int × Int} (h : Rd D s x) : cdQ s x / 2 < (s * (s + 1) / 2).toNat := by
  obtain ⟨_, e, _⟩ := cdQ_bd h
  have := h.fm.pos
  have := h.le
  have ev := cdQ_even h
  have a1 : x.1 * (x.1 + 1) ≤ s * (s + 1) := Int.mul_le_mul (by omega) (by omega) (by omega) (by omega)
  have a2 : s * (s + 1) % 2 = 0 := by
    have : s % 2 = 0 ∨ s % 2 = 1 := by omega
    rcases this with z | z
    · rw [Int.mul_emod, z]; simp
    · rw [Int.mul_emod, show (s + 1) % 2 = 0 by omega]; simp
  omega
theorem Fm.even {D a u : Int} (h : Fm D a u) : (u - D) % 2 = 0 := by
  obtain ⟨k, hk⟩ := h.dvd
  have e : u * u - D = 2 * (2 * (a * k)) := by rw [hk]; grind
  have : u % 2 = 0 ∨ u % 2 = 1 := by omega
  have : (u * u) % 2 = u % 2 := by
    rcases this with z | z
    · rw [Int.mul_emod, z]; simp
    · rw [Int.mul_emod, z]; rfl
  omega
theorem cdQ_inj {D s : Int} {x y : Int × Int} (hx : Rd D s x) (hy : Rd D s y) (e : cdQ s x / 2 = cdQ s y / 2) : x = y := by
  obtain ⟨a1, b1, c1⟩ := cdQ_bd hx
  obtain ⟨a2, b2, c2⟩ := cdQ_bd hy
  have v1 := cdQ_even hx
  have v2 := cdQ_even hy
  have p1 := hx.fm.pos
  have p2 := hy.fm.pos
  have h1 := hx.hi
  have h2 := hy.hi
  have u1 := hx.fm.even
  have u2 := hy.fm.even
  have e : cdQ s x = cdQ s y := by omega
  have e1 : x.1 = y.1 := by
    rcases Int.lt_trichotomy x.1 y.1 with z | z | z
    · have : x.1 * (x.1 + 1) ≤ (y.1 - 1) * y.1 := Int.mul_le_mul (by omega) (by omega) (by omega) (by omega)
      have : (y.1 - 1) * y.1 = y.1 * (y.1 - 1) := Int.mul_comm ..
      omega
    · exact z
    · have : y.1 * (y.1 + 1) ≤ (x.1 - 1) * x.1 := Int.mul_le_mul (by omega) (by omega) (by omega) (by omega)
      have : (x.1 - 1) * x.1 = x.1 * (x.1 - 1) := Int.mul_comm ..
      omega
  rw [e1] at c1
  exact Prod.ext e1 (by omega)
/-- the walk comes back to its first -/
theorem Rd.round {D s : Int} (q : Dq D s) {x : Int × Int} (h : Rd D s x) : ∃ k : Nat, 1 ≤ k ∧ 2 * (k : Int) ≤ s * (s + 1) ∧ itQ D s x k = x ∧ ∀ i, 0 < i → i < k → itQ D s x i ≠ x := by
  classical
  have s0 := q.s0
  have ssp : 0 < s * (s + 1) := Int.mul_pos s0 (by omega)
  have ex : ∃ k : Nat, 1 ≤ k ∧ k ≤ (s * (s + 1) / 2).toNat ∧ itQ D s x k = x := by
    apply Classical.byContradiction
    intro c
    have nd : ((List.range ((s * (s + 1) / 2).toNat + 1)).map fun i => cdQ s (itQ D s x i) / 2).Nodup := by
      rw [List.Nodup, List.pairwise_map]
      refine (List.pairwise_lt_range).imp_of_mem fun {i j} hi hj hlt e => ?_
      have hj := List.mem_range.mp hj
      have e2 := cdQ_inj (Rd.it q h i) (Rd.it q h j) e
      refine c ⟨j - i, by omega, by omega, Rd.back q h i (j - i) ?_⟩
      rw [show i + (j - i) = j by omega]
      exact e2.symm
    have := nd_len (s * (s + 1) / 2).toNat _ nd fun y hy => by
      obtain ⟨i, _, rfl⟩ := List.mem_map.mp hy
      exact cdQ_lt (Rd.it q h i)
    rw [List.length_map, List.length_range] at this
    omega
  obtain ⟨k0, hk0⟩ := ex
  obtain ⟨k, ⟨k1, k2, k3⟩, hl⟩ := least_nat (P := fun k => 1 ≤ k ∧ k ≤ (s * (s + 1) / 2).toNat ∧ itQ D s x k = x) hk0
  refine ⟨k, k1, by omega, k3, fun i hi hik e => ?_⟩
  have := hl i ⟨by omega, by omega, e⟩
  omega
end T
set_option maxRecDepth 100000
set_option maxHeartbeats 4000000
namespace T
open PySem PySem.Spec PyProof.Rows L2
section
variable {r : Rg} {D t n0 : Int}
/-- a ring of degree two, as told -/
structure R2 (r : Rg) (D t n0 : Int) : Prop where
  p0 : pget r.1 0 = ok n0
  p1 : pget r.1 1 = ok t
  dd : D = t * t - 4 * n0
/-- u of an (a, r) -/
def uOf (t : Int) (x : Int × Int) : Int × Int := (x.1, 2 * x.2 - t)
end
end T
set_option maxRecDepth 100000
set_option maxHeartbeats 4000000
namespace T
open PySem PySem.Spec PyProof.Rows L2
/-! ### below nought -/
section
variable {r : Rg} {D t n0 : Int}
theorem sq0 (u : Int) : 0 ≤ u * u := by
  rcases Int.le_total 0 u with z | z
  · exact Int.mul_nonneg z z
  · have := Int.mul_nonneg (show 0 ≤ -u by omega) (show 0 ≤ -u by omega)
    rwa [show -u * -u = u * u by grind] at this
/-- a home below nought, with its next -/
structure LowH (D t : Int) (y z : Int × Int) : Prop where
  br : Br D 0 (uOf t y)
  nx : uOf t z = stpQ D 0 (uOf t y)
  le : y.1 ≤ z.1
  no : z.1 = y.1 → ¬ z.2 % z.1 < y.2 % y.1
/-- a path from (a, ρ), step by step -/
structure PathOk (D s t : Int) (b : Nat) (a ρ : Int) (P : List (Int × Int)) : Prop where
  hd : ∃ w, P[0]? = some (a, w) ∧ 2 * a ∣ (2 * w - t) - (2 * ρ - t)
  ch : ∀ (j : Nat) v w, P[j]? = some v → P[j + 1]? = some w → uOf t w = stpQ D s (uOf t v)
  all : ∀ v ∈ P, Br D s (uOf t v) ∧ Sm b v.1
theorem PathOk.snoc {D s t : Int} {b : Nat} {a ρ : Int} {pre : List (Int × Int)} {x y : Int × Int} (h : PathOk D s t b a ρ (pre ++ [x])) (e : uOf t y = stpQ D s (uOf t x)) (hb : Br D s (uOf t y)) (sb : Sm b y.1) : PathOk D s t b a ρ (pre ++ [x] ++ [y]) := by
  refine ⟨?_, fun j v w h1 h2 => ?_, fun v hv => ?_⟩
  · obtain ⟨w, h1, h2⟩ := h.hd
    refine ⟨w, ?_, h2⟩
    rw [List.getElem?_append_left (by simp)]
    exact h1
  · have l : (pre ++ [x]).length = pre.length + 1 := by simp
    have lj := (List.getElem?_eq_some_iff.mp h2).1
    rw [List.length_append, l] at lj
    have lj : j + 1 < pre.length + 1 + 1 := lj
    rw [List.getElem?_append_left (by omega)] at h1
    by_cases c : j + 1 < pre.length + 1
    · rw [List.getElem?_append_left (by omega)] at h2
      exact h.ch j v w h1 h2
    · have : j = pre.length := by omega
      subst this
      rw [List.getElem?_append_right (by omega)] at h1
      rw [List.getElem?_append_right (by omega)] at h2
      simp at h1 h2
      rw [← h1, ← h2]
      exact e
  · rcases List.mem_append.mp hv with z | z
    · exact h.all v z
    · rw [List.mem_singleton.mp z]; exact ⟨hb, sb⟩
end
end T
set_option maxRecDepth 100000
set_option maxHeartbeats 4000000
namespace T
open PySem PySem.Spec PyProof.Rows L2
section
variable {r : Rg} {D t n0 s : Int}
theorem par_u (h : R2 r D t n0) {a u : Int} (hf : Fm D a u) : ∃ w, u = 2 * w - t := by
  obtain ⟨k, hk⟩ := hf.dvd
  rw [h.dd] at hk
  have e : (u - t) * (u + t) = 4 * (a * k - n0) := by
    have : (u - t) * (u + t) = u * u - t * t := by grind
    have : 4 * a * k = 4 * (a * k) := by grind
    omega
  have z2 : (u + t) % 2 = 0 ∨ (u + t) % 2 = 1 := by omega
  rcases z2 with z | z
  · exact ⟨(u + t) / 2, by omega⟩
  · exfalso
    obtain ⟨x, hx⟩ : ∃ x, u - t = 2 * x + 1 := ⟨(u - t) / 2, by omega⟩
    obtain ⟨y, hy⟩ : ∃ y, u + t = 2 * y + 1 := ⟨(u + t) / 2, by omega⟩
    rw [hx, hy] at e
    have : (2 * x + 1) * (2 * y + 1) = 2 * (2 * (x * y) + x + y) + 1 := by grind
    omega
def kyQ (x : Int × Int) : List Int := [x.1, x.2 % x.1]
/-- a home above nought -/
structure HighH (D s t : Int) (y : Int × Int) : Prop where
  rd : Rd D s (uOf t y)
  least : ∀ (j : Nat) (w : Int × Int), uOf t w = itQ D s (uOf t y) j → ltE (eRow eInt) (kyQ w) (kyQ y) = false
/-- the pair with a given (a, u) -/
def xsQ (D s t : Int) (X : Int × Int) (j : Nat) : Int × Int := ((itQ D s X j).1, ((itQ D s X j).2 + t) / 2)
theorem xsQ_u (h : R2 r D t n0) (q : Dq D s) {X : Int × Int} (hX : Rd D s X) (j : Nat) : uOf t (xsQ D s t X j) = itQ D s X j := by
  obtain ⟨w, hw⟩ := par_u h (Rd.it q hX j).fm
  unfold uOf xsQ
  refine Prod.ext rfl ?_
  show 2 * (((itQ D s X j).2 + t) / 2) - t = _
  omega
end
end T
set_option maxRecDepth 100000
set_option maxHeartbeats 4000000
namespace T
open PySem PySem.Spec PyProof.Rows L2
section
variable {r : Rg} {D t n0 s : Int}
end
end T
set_option maxRecDepth 100000
set_option maxHeartbeats 4000000
namespace T
open PySem PySem.Spec PyProof.Rows L2
section
variable {F : NF} {r : Rg}
end
end T
set_option maxRecDepth 100000
set_option maxHeartbeats 4000000
namespace T
open PySem PySem.Spec PyProof.Rows L2
section
variable {F : NF} {r : Rg} {t n0 : Int}
theorem vec2 (x y : Int) : F.vec [x, y] = (x : F.R) + (y : F.R) * F.cl PZ.X := by
  show F.cl (PZ.of [x, y]) = _
  rw [PZ.of_cons, PZ.of_cons, PZ.of_nil, NF.cl_add, NF.cl_mul, NF.cl_add, NF.cl_mul, NF.cl_int, NF.cl_int, NF.cl_zero]
  grind
theorem root2 (h : RF r F) (e : r.1 = [n0, t, 1]) : (n0 : F.R) + (t : F.R) * F.cl PZ.X + F.cl PZ.X * F.cl PZ.X = 0 := by
  have z : F.cl (PZ.of [n0, t, 1]) = 0 := by rw [← e, h.of.f]; exact NF.cl_f
  rw [PZ.of_cons, PZ.of_cons, PZ.of_cons, PZ.of_nil, NF.cl_add, NF.cl_mul, NF.cl_add, NF.cl_mul, NF.cl_add, NF.cl_mul, NF.cl_int, NF.cl_int, NF.cl_int, NF.cl_zero] at z
  have o : ((1 : Int) : F.R) = 1 := by grind
  rw [o] at z
  generalize F.cl PZ.X = X at z ⊢
  grind
end
end T
set_option maxRecDepth 100000
set_option maxHeartbeats 4000000
namespace T
open PySem PySem.Spec PyProof.Rows L2
section
variable {F : NF} {r : Rg} {t n0 D s : Int}
/-- the numbers of (a, ρ) -/
def Iv (F : NF) (v : Int × Int) (z : F.R) : Prop := ∃ x y : Int, z = (x : F.R) * (v.1 : F.R) + (y : F.R) * ((v.2 : F.R) + F.cl PZ.X)
theorem Iv.ofA (v : Int × Int) : Iv F v (v.1 : F.R) := ⟨1, 0, by grind⟩
theorem Iv.ofR (v : Int × Int) : Iv F v ((v.2 : F.R) + F.cl PZ.X) := ⟨0, 1, by grind⟩
end
end T
set_option maxRecDepth 100000
set_option maxHeartbeats 4000000
namespace T
open PySem PySem.Spec PyProof.Rows L2
section
variable {F : NF} {r : Rg} {t n0 D s : Int}
/-- the norm of p + q X -/
def nQ (t n0 p q : Int) : Int := p * p - t * p * q + n0 * q * q
theorem vec_inj2 (hn : F.n = 2) {p q p' q' : Int} (h : F.vec [p, q] = F.vec [p', q']) : p = p' ∧ q = q' := by
  have := NF.vec_inj (l := [p, q]) (m := [p', q']) (by rw [hn]; rfl) (by rw [hn]; rfl) h
  simpa using this
end
end T
set_option maxRecDepth 100000
set_option maxHeartbeats 4000000
namespace T
open PySem PySem.Spec PyProof.Rows L2
section
variable {F : NF} {r : Rg} {t n0 D s : Int}
end
end T
set_option maxRecDepth 100000
set_option maxHeartbeats 4000000
namespace T
open PySem PySem.Spec PyProof.Rows L2
section
variable {F : NF} {r : Rg} {t n0 D s : Int}
end
end T
set_option maxRecDepth 100000
set_option maxHeartbeats 4000000
namespace T
open PySem PySem.Spec PyProof.Rows L2
section
variable {F : NF} {r : Rg} {t n0 D s : Int}
theorem Iv.congr {a ρ ρ' : Int} (h : a ∣ ρ' - ρ) (z : F.R) : Iv F (a, ρ) z ↔ Iv F (a, ρ') z := by
  have main : ∀ ρ ρ' : Int, a ∣ ρ' - ρ → Iv F (a, ρ) z → Iv F (a, ρ') z := fun ρ ρ' h ⟨x, y, e⟩ => by
    obtain ⟨k, hk⟩ := h
    refine ⟨x - y * k, y, ?_⟩
    rw [e]
    show (x : F.R) * (a : F.R) + (y : F.R) * ((ρ : F.R) + F.cl PZ.X) = ((x - y * k : Int) : F.R) * (a : F.R) + (y : F.R) * ((ρ' : F.R) + F.cl PZ.X)
    rw [show ρ' = ρ + a * k by omega]
    have i1 : ((x - y * k : Int) : F.R) = (x : F.R) - (y : F.R) * (k : F.R) := by grind
    have i2 : ((ρ + a * k : Int) : F.R) = (ρ : F.R) + (a : F.R) * (k : F.R) := by grind
    rw [i1, i2]
    generalize F.cl PZ.X = X
    grind
  obtain ⟨k, hk⟩ := h
  exact ⟨main ρ ρ' ⟨k, hk⟩, main ρ' ρ ⟨-k, by rw [Int.mul_neg]; omega⟩⟩
end
end T
set_option maxRecDepth 100000
set_option maxHeartbeats 4000000
namespace T
open PySem PySem.Spec PyProof.Rows L2
section
variable {F : NF} {r : Rg} {t n0 : Int}
end
end T
set_option maxRecDepth 100000
set_option maxHeartbeats 4000000
namespace T
/-! ### forms a i i + u i j + n j j, and those that are alike to them -/
structure Rl (a u n c w i j e f δ : Int) : Prop where
  dl : δ = 1 ∨ δ = -1
  det : i * f - j * e = δ
  nm : a * i * i + u * i * j + n * j * j = δ * c
  pl : 2 * a * i * e + u * (i * f + j * e) + 2 * n * j * f = δ * w
theorem Rl.neg {a u n c w i j e f δ : Int} (h : Rl a u n c w i j e f δ) : Rl a u n c w (-i) (-j) (-e) (-f) δ := by
  obtain ⟨h1, h2, h3, h4⟩ := h
  exact ⟨h1, by grind, by grind, by grind⟩
/-- one step on -/
theorem Rl.step {a u c1 q c w i j e f δ : Int} (h : Rl a u (-c1) c w i j e f δ) : Rl c1 (2 * q * c1 - u) (-(a + q * u - q * q * c1)) c w (j - i * q) i (f - e * q) e (-δ) := by
  obtain ⟨h1, h2, h3, h4⟩ := h
  refine ⟨by omega, by grind, ?_, ?_⟩
  · have : c1 * (j - i * q) * (j - i * q) + (2 * q * c1 - u) * (j - i * q) * i + -(a + q * u - q * q * c1) * i * i = -(a * i * i + u * i * j + -c1 * j * j) := by grind
    rw [this, h3]; grind
  · have : 2 * c1 * (j - i * q) * (f - e * q) + (2 * q * c1 - u) * ((j - i * q) * e + i * (f - e * q)) + 2 * -(a + q * u - q * q * c1) * i * e = -(2 * a * i * e + u * (i * f + j * e) + 2 * -c1 * j * f) := by grind
    rw [this, h4]; grind
/-- one step back -/
theorem Rl.back {a0 u0 a q c w i j e f δ : Int} (h : Rl a (2 * q * a - u0) (-(a0 + q * u0 - q * q * a)) c w i j e f δ) : Rl a0 u0 (-a) c w j (i + j * q) f (e + f * q) (-δ) := by
  obtain ⟨h1, h2, h3, h4⟩ := h
  refine ⟨by omega, by grind, ?_, ?_⟩
  · have : a0 * j * j + u0 * j * (i + j * q) + -a * (i + j * q) * (i + j * q) = -(a * i * i + (2 * q * a - u0) * i * j + -(a0 + q * u0 - q * q * a) * j * j) := by grind
    rw [this, h3]; grind
  · have : 2 * a0 * j * f + u0 * (j * (e + f * q) + (i + j * q) * f) + 2 * -a * (i + j * q) * (e + f * q) = -(2 * a * i * e + (2 * q * a - u0) * (i * f + j * e) + 2 * -(a0 + q * u0 - q * q * a) * j * f) := by grind
    rw [this, h4]; grind
theorem unit_of_mul {x y : Int} (h : x * y = 1 ∨ x * y = -1) : x = 1 ∨ x = -1 := by
  have : (x * y).natAbs = 1 := by omega
  rw [Int.natAbs_mul] at this
  have := Nat.eq_one_of_mul_eq_one_right this
  omega
/-- where j is nought it is the same -/
theorem Rl.at0 {a u n c w i e f δ : Int} (h : Rl a u n c w i 0 e f δ) (ha : 0 < a) (hc : 0 < c) : c = a ∧ 2 * a ∣ w - u := by
  obtain ⟨h1, h2, h3, h4⟩ := h
  have h2' : i * f = δ := by rw [← h2]; grind
  have ui : i = 1 ∨ i = -1 := unit_of_mul (y := f) (by omega)
  have ii : i * i = 1 := by rcases ui with r | r <;> rw [r] <;> rfl
  have h3' : a = δ * c := by rw [← h3]; grind
  have d1 : δ = 1 := by
    rcases h1 with r | r
    · exact r
    · rw [r] at h3'; omega
  subst d1
  refine ⟨by omega, i * e, ?_⟩
  have : w = 2 * a * i * e + u * (i * f) := by rw [← Int.one_mul w, ← h4]; grind
  rw [this, h2']
  grind
/-- where i is nought it is the next -/
theorem Rl.at1 {a u c1 c w j e f δ : Int} (h : Rl a u (-c1) c w 0 j e f δ) (ha : 0 < c1) (hc : 0 < c) : c = c1 ∧ 2 * c1 ∣ w + u := by
  obtain ⟨h1, h2, h3, h4⟩ := h
  have h2' : j * e = -δ := by rw [← h2]; grind
  have ui : j = 1 ∨ j = -1 := unit_of_mul (y := e) (by omega)
  have ii : j * j = 1 := by rcases ui with r | r <;> rw [r] <;> rfl
  have h3' : -c1 = δ * c := by rw [← h3]; grind
  have d1 : δ = -1 := by
    rcases h1 with r | r
    · rw [r] at h3'; omega
    · exact r
  subst d1
  refine ⟨by omega, j * f, ?_⟩
  have : -w = u * (j * e) - 2 * c1 * j * f := by
    have : -1 * w = -w := by omega
    rw [← this, ← h4]; grind
  rw [h2'] at this
  have e1 : 2 * c1 * j * f = 2 * c1 * (j * f) := by grind
  omega
/-- between two it is greater -/
theorem Rl.amid {a u c1 q c w i j e f δ : Int} (h : Rl a u (-c1) c w i j e f δ) (ha : 0 < a) (hc1 : 0 < c1) (hc2 : 0 < a + q * u - q * q * c1) (hc : 0 < c) (hi : 1 ≤ i) (hj : 1 ≤ j) (hq : j < i * q) : a < c ∨ a + q * u - q * q * c1 < c := by
  obtain ⟨h1, h2, h3, h4⟩ := h
  obtain ⟨g, hg⟩ : ∃ g, a * i * i + u * i * j + -c1 * j * j = g := ⟨_, rfl⟩
  obtain ⟨m, hm⟩ : ∃ m, a + q * u - q * q * c1 = m := ⟨_, rfl⟩
  rw [hm] at hc2 ⊢
  have key : (i * q) * g = (i * q - j) * (i * i * a) + j * (i * i * m) + c1 * j * (i * q - j) * (i * q) := by rw [← hg, ← hm]; grind
  have N0 : 0 < i * q := by omega
  have p3 : 0 < c1 * j * (i * q - j) * (i * q) := Int.mul_pos (Int.mul_pos (Int.mul_pos hc1 (by omega)) (by omega)) N0
  have ii : 1 ≤ i * i := by
    have : 1 * 1 ≤ i * i := Int.mul_le_mul hi hi (by omega) (by omega)
    omega
  have a1 : a ≤ i * i * a := by
    have : 1 * a ≤ i * i * a := Int.mul_le_mul_of_nonneg_right ii (by omega)
    omega
  have m1 : m ≤ i * i * m := by
    have : 1 * m ≤ i * i * m := Int.mul_le_mul_of_nonneg_right ii (by omega)
    omega
  obtain ⟨x, hx, hxa, hxm⟩ : ∃ x, 0 < x ∧ x ≤ a ∧ x ≤ m ∧ (x = a ∨ x = m) := by
    by_cases z : a ≤ m
    · exact ⟨a, ha, by omega, z, .inl rfl⟩
    · exact ⟨m, hc2, by omega, by omega, .inr rfl⟩
  have b1 : (i * q - j) * x ≤ (i * q - j) * (i * i * a) := Int.mul_le_mul_of_nonneg_left (by omega) (by omega)
  have b2 : j * x ≤ j * (i * i * m) := Int.mul_le_mul_of_nonneg_left (by omega) (by omega)
  have b3 : (i * q) * x = (i * q - j) * x + j * x := by grind
  have lt : (i * q) * x < (i * q) * g := by omega
  have xg : x < g := Int.lt_of_mul_lt_mul_left lt (by omega)
  have gp : 0 < g := by omega
  rw [hg] at h3
  have : g = c := by
    rcases h1 with r | r
    · rw [r] at h3; omega
    · rw [r] at h3; omega
  omega
section
variable {D s : Int}
/-- what the step tells: D = u u + 4 a c, the next u, the one behind it -/
theorem Rd.tell (q : Dq D s) {x : Int × Int} (h : Rd D s x) : ∃ k : Int, 1 ≤ k ∧ (stpQ D s x).2 = 2 * k * (stpQ D s x).1 - x.2 ∧ (stpQ D s (stpQ D s x)).1 = x.1 + k * x.2 - k * k * (stpQ D s x).1 := by
  obtain ⟨h1, g1, g2, e⟩ := h.step q
  obtain ⟨_, _, _, e'⟩ := h1.step q
  have p := h1.fm.pos
  have d : 2 * (stpQ D s x).1 ∣ (stpQ D s x).2 + x.2 := by
    have := brU_rest (top := max (stA D x.1 x.2) s) (a := stA D x.1 x.2) (v := -x.2)
    rwa [show ∀ y : Int, y - -x.2 = y + x.2 from fun y => by omega] at this
  obtain ⟨k, hk⟩ := d
  have kk : 2 * (stpQ D s x).1 * k = 2 * k * (stpQ D s x).1 := by grind
  have up := h.upos
  have up1 := h1.upos
  have k1 : 1 ≤ k := by
    apply Classical.byContradiction
    intro z
    have : 2 * (stpQ D s x).1 * k ≤ 2 * (stpQ D s x).1 * 0 := Int.mul_le_mul_of_nonneg_left (by omega) (by omega)
    omega
  refine ⟨k, k1, by omega, ?_⟩
  have u1 : (stpQ D s x).2 = 2 * k * (stpQ D s x).1 - x.2 := by omega
  have : (4 * (stpQ D s x).1) * (stpQ D s (stpQ D s x)).1 = (4 * (stpQ D s x).1) * (x.1 + k * x.2 - k * k * (stpQ D s x).1) := by
    rw [e', u1]
    have : D = 4 * x.1 * (stpQ D s x).1 + x.2 * x.2 := by omega
    rw [this]; grind
  exact Int.eq_of_mul_eq_mul_left (by omega) this
/-- a cycle of reduced ones -/
structure Cyc (D s : Int) (S : Int × Int → Prop) : Prop where
  rd : ∀ x, S x → Rd D s x
  nx : ∀ x, S x → S (stpQ D s x)
  bk : ∀ x, S x → ∃ y, S y ∧ stpQ D s y = x
theorem Rd.cyc (q : Dq D s) {x : Int × Int} (h : Rd D s x) : Cyc D s fun y => ∃ j, y = itQ D s x j := by
  obtain ⟨k, k1, _, kr, _⟩ := h.round q
  refine ⟨fun y ⟨j, e⟩ => e ▸ h.it q j, fun y ⟨j, e⟩ => ⟨j + 1, by rw [e]; rfl⟩, fun y ⟨j, e⟩ => ?_⟩
  cases j with
  | succ j => exact ⟨_, ⟨j, rfl⟩, e.symm⟩
  | zero =>
    refine ⟨_, ⟨k - 1, rfl⟩, ?_⟩
    rw [e]
    show stpQ D s (itQ D s x (k - 1)) = x
    have : itQ D s x (k - 1 + 1) = x := by rw [show k - 1 + 1 = k by omega]; exact kr
    exact this
/-- what is alike to one of a cycle is one of it, or is greater than one of it -/
def Out (S : Int × Int → Prop) (c w : Int) : Prop := ∃ z, S z ∧ ((z.1 = c ∧ 2 * c ∣ w - z.2) ∨ z.1 < c)
theorem cyc_on (q : Dq D s) {S : Int × Int → Prop} (hS : Cyc D s S) {c w : Int} (hc : 0 < c) : ∀ (N : Nat) (x : Int × Int) (i j e f δ : Int), S x → 0 ≤ i → 1 ≤ j → i + j ≤ (N : Int) → Rl x.1 x.2 (-(stpQ D s x).1) c w i j e f δ → Out S c w
  | 0, x, i, j, e, f, δ, hx, hi, hj, hN, hR => by omega
  | N + 1, x, i, j, e, f, δ, hx, hi, hj, hN, hR => by
    have h := hS.rd x hx
    have h1 := (h.step q).1
    have h2 := (h1.step q).1
    obtain ⟨k, k1, u1, c2⟩ := h.tell q
    have p0 := h.fm.pos
    have p1 := h1.fm.pos
    have p2 := h2.fm.pos
    by_cases i0 : i = 0
    · subst i0
      obtain ⟨e1, e2⟩ := hR.at1 p1 hc
      refine ⟨_, hS.nx x hx, .inl ⟨e1.symm, ?_⟩⟩
      rw [u1, e1]
      obtain ⟨m, hm⟩ := e2
      exact ⟨m - k, by rw [Int.mul_sub, ← hm]; grind⟩
    · by_cases l : j < i * k
      · rcases hR.amid (q := k) p0 p1 (by rw [← c2]; exact p2) hc (by omega) hj l with r | r
        · exact ⟨x, hx, .inr r⟩
        · exact ⟨_, hS.nx _ (hS.nx x hx), .inr (by rw [c2]; exact r)⟩
      · have st := hR.step (q := k)
        rw [← u1, ← c2] at st
        have : i * 1 ≤ i * k := Int.mul_le_mul_of_nonneg_left k1 hi
        exact cyc_on q hS hc N _ _ _ _ _ _ (hS.nx x hx) (by omega) (by omega) (by omega) st
theorem cyc_back (q : Dq D s) {S : Int × Int → Prop} (hS : Cyc D s S) {c w : Int} (hc : 0 < c) : ∀ (N : Nat) (x : Int × Int) (i j e f δ : Int), S x → 1 ≤ i → 1 ≤ j → i + j ≤ (N : Int) → Rl x.1 x.2 (-(stpQ D s x).1) c w i (-j) e f δ → Out S c w
  | 0, x, i, j, e, f, δ, hx, hi, hj, hN, hR => by omega
  | N + 1, x, i, j, e, f, δ, hx, hi, hj, hN, hR => by
    obtain ⟨y, hy, rfl⟩ := hS.bk x hx
    have h := hS.rd y hy
    have h1 := (h.step q).1
    obtain ⟨k, k1, u1, c2⟩ := h.tell q
    rw [u1, c2] at hR
    have bk := hR.back.neg
    have : j * 1 ≤ j * k := Int.mul_le_mul_of_nonneg_left k1 (by omega)
    have e1 : -(i + -j * k) = j * k - i := by grind
    rw [Int.neg_neg, e1] at bk
    by_cases l : i < j * k
    · exact cyc_on q hS hc (j + (j * k - i)).toNat y _ _ _ _ _ hy (by omega) (by omega) (by omega) bk
    · by_cases z : i = j * k
      · rw [z, Int.sub_self] at bk
        obtain ⟨b1, b2⟩ := bk.at0 h.fm.pos hc
        exact ⟨y, hy, .inl ⟨b1.symm, by rw [b1]; exact b2⟩⟩
      · have e2 : j * k - i = -(i - j * k) := by omega
        rw [e2] at bk
        exact cyc_back q hS hc N y _ _ _ _ _ hy (by omega) (by omega) (by omega) bk
theorem cyc_all (q : Dq D s) {S : Int × Int → Prop} (hS : Cyc D s S) {x : Int × Int} (hx : S x) {c w : Int} (hc : 0 < c) {i j e f δ : Int} (hR : Rl x.1 x.2 (-(stpQ D s x).1) c w i j e f δ) : Out S c w := by
  have main : ∀ i j e f : Int, 0 ≤ i → Rl x.1 x.2 (-(stpQ D s x).1) c w i j e f δ → Out S c w := fun i j e f hi hR => by
    rcases Int.lt_trichotomy j 0 with z | z | z
    · by_cases i0 : i = 0
      · subst i0
        exact cyc_on q hS hc (-j).toNat x 0 (-j) _ _ _ hx (by omega) (by omega) (by omega) (by have := hR.neg; rwa [Int.neg_zero] at this)
      · exact cyc_back q hS hc (i + -j).toNat x i (-j) _ _ _ hx (by omega) (by omega) (by omega) (by rw [Int.neg_neg]; exact hR)
    · subst z
      obtain ⟨b1, b2⟩ := hR.at0 (hS.rd x hx).fm.pos hc
      exact ⟨x, hx, .inl ⟨b1.symm, by rw [b1]; exact b2⟩⟩
    · exact cyc_on q hS hc (i + j).toNat x i j _ _ _ hx hi (by omega) (by omega) hR
  rcases Int.le_total 0 i with z | z
  · exact main i j e f z hR
  · exact main (-i) (-j) (-e) (-f) (by omega) hR.neg
end
/-! below nought: a form with |u| at most a at most n -/
theorem low_out {a u n c w i j e f δ : Int} (h : Rl a u n c w i j e f δ) (ha : 0 < a) (hn : a ≤ n) (h1 : -a < u) (h2 : u ≤ a) (hc : 0 < c) : (c = a ∧ 2 * a ∣ w - u) ∨ (c = n ∧ 2 * n ∣ w + u) ∨ a < c := by
  by_cases j0 : j = 0
  · subst j0
    exact .inl (h.at0 ha hc)
  by_cases i0 : i = 0
  · subst i0
    -- the next
    obtain ⟨g1, g2, g3, g4⟩ := h
    have h2' : j * e = -δ := by rw [← g2]; grind
    have ui : j = 1 ∨ j = -1 := unit_of_mul (y := e) (by omega)
    have ii : j * j = 1 := by rcases ui with r | r <;> rw [r] <;> rfl
    have h3' : n = δ * c := by rw [← g3]; grind
    have d1 : δ = 1 := by
      rcases g1 with r | r
      · exact r
      · rw [r] at h3'; omega
    subst d1
    refine .inr (.inl ⟨by omega, j * f, ?_⟩)
    have : w = u * (j * e) + 2 * n * j * f := by rw [← Int.one_mul w, ← g4]; grind
    rw [h2'] at this
    have e1 : 2 * n * j * f = 2 * n * (j * f) := by grind
    omega
  · obtain ⟨g1, g2, g3, g4⟩ := h
    -- absolute values
    obtain ⟨I, hI⟩ : ∃ I : Int, I = (i.natAbs : Int) := ⟨_, rfl⟩
    obtain ⟨J, hJ⟩ : ∃ J : Int, J = (j.natAbs : Int) := ⟨_, rfl⟩
    have I1 : 1 ≤ I := by omega
    have J1 : 1 ≤ J := by omega
    have ii : i * i = I * I := by rw [hI]; exact (Int.natAbs_mul_self (a := i)).symm
    have jj : j * j = J * J := by rw [hJ]; exact (Int.natAbs_mul_self (a := j)).symm
    have ij : i * j = I * J ∨ i * j = -(I * J) := by
      have e1 : I = i ∨ I = -i := by omega
      have e2 : J = j ∨ J = -j := by omega
      rcases e1 with r | r <;> rcases e2 with r' | r' <;> rw [r, r']
      · exact .inl rfl
      · exact .inr (by grind)
      · exact .inr (by grind)
      · exact .inl (by grind)
    have IJ : 0 < I * J := Int.mul_pos (by omega) (by omega)
    obtain ⟨g, hg⟩ : ∃ g, a * i * i + u * i * j + n * j * j = g := ⟨_, rfl⟩
    have ge : g = a * (I * I) + u * (i * j) + n * (J * J) := by rw [← hg, ← ii, ← jj]; grind
    have ub : -(a * (I * J)) ≤ u * (i * j) := by
      rcases ij with r | r
      · rw [r]
        have : -a * (I * J) ≤ u * (I * J) := Int.mul_le_mul_of_nonneg_right (by omega) (by omega)
        have : -a * (I * J) = -(a * (I * J)) := by grind
        omega
      · rw [r]
        have : u * (I * J) ≤ a * (I * J) := Int.mul_le_mul_of_nonneg_right (by omega) (by omega)
        have : u * -(I * J) = -(u * (I * J)) := by grind
        omega
    have aJ : a * (J * J) ≤ n * (J * J) := Int.mul_le_mul_of_nonneg_right hn (Int.le_of_lt (Int.mul_pos (by omega) (by omega)))
    have cg : 0 < g → g = c := fun gp => by
      rw [hg] at g3
      rcases g1 with r | r
      · rw [r] at g3; omega
      · rw [r] at g3; omega
    -- I I - I J + J J is at least 1, more where they differ
    by_cases E : I = J
    · have uj : I = 1 := by
        have d : I ∣ δ := by
          have d1 : I ∣ i := by rw [hI]; exact Int.natAbs_dvd.mpr (Int.dvd_refl i)
          have d2 : I ∣ j := by rw [E, hJ]; exact Int.natAbs_dvd.mpr (Int.dvd_refl j)
          rw [← g2]
          exact Int.dvd_sub (Int.dvd_trans d1 (Int.dvd_mul_right i f)) (Int.dvd_trans d2 (Int.dvd_mul_right j e))
        have := Int.le_of_dvd (b := 1) (by decide) (by rcases g1 with r | r <;> rw [r] at d; exact d; exact Int.dvd_neg.mp d)
        omega
      have J1' : J = 1 := by omega
      rw [uj, J1'] at ge ij
      have ge : g = a + u * (i * j) + n := by omega
      rcases ij with r | r
      · rw [r] at ge
        have := cg (by omega)
        exact .inr (.inr (by omega))
      · rw [r] at ge
        by_cases t : u = a ∧ n = a
        · obtain ⟨t1, t2⟩ := t
          subst t1
          subst t2
          have gc := cg (by omega)
          refine .inl ⟨by omega, ?_⟩
          have d1 : δ = 1 := by
            rw [hg] at g3
            rcases g1 with r | r
            · exact r
            · rw [r] at g3; omega
          subst d1
          have s1 : (i = 1 ∧ j = -1) ∨ (i = -1 ∧ j = 1) := by
            have e1 : i = 1 ∨ i = -1 := by omega
            have e2 : j = 1 ∨ j = -1 := by omega
            rcases e1 with p | p <;> rcases e2 with p' | p' <;> rw [p, p'] at r
            · omega
            · exact .inl ⟨p, p'⟩
            · exact .inr ⟨p, p'⟩
            · omega
          rcases s1 with ⟨p, p'⟩ | ⟨p, p'⟩
          · rw [p, p'] at g2 g4
            refine ⟨-f, ?_⟩
            have e1 : e = 1 - f := by omega
            rw [e1] at g4
            grind
          · rw [p, p'] at g2 g4
            refine ⟨f, ?_⟩
            have e1 : e = -1 - f := by omega
            rw [e1] at g4
            grind
        · have := cg (by omega)
          exact .inr (.inr (by omega))
    · have big : a * (I * I) - a * (I * J) + a * (J * J) ≥ a + a := by
        have : a * (I * I) - a * (I * J) + a * (J * J) = a * (I * I - I * J + J * J) := by grind
        rw [this]
        have : 2 ≤ I * I - I * J + J * J := by
          rcases Int.lt_or_gt_of_ne E with r | r
          · have m1 : 1 * 1 ≤ I * I := Int.mul_le_mul I1 I1 (by omega) (by omega)
            have m2 : J * 1 ≤ J * (J - I) := Int.mul_le_mul_of_nonneg_left (by omega) (by omega)
            have m3 : J * (J - I) = J * J - I * J := by grind
            omega
          · have m1 : 1 * 1 ≤ J * J := Int.mul_le_mul J1 J1 (by omega) (by omega)
            have m2 : I * 1 ≤ I * (I - J) := Int.mul_le_mul_of_nonneg_left (by omega) (by omega)
            have m3 : I * (I - J) = I * I - I * J := by grind
            omega
        have : a * 2 ≤ a * (I * I - I * J + J * J) := Int.mul_le_mul_of_nonneg_left this (by omega)
        omega
      have gp : a + a ≤ g := by omega
      have := cg (by omega)
      exact .inr (.inr (by omega))
end T
set_option maxRecDepth 100000
set_option maxHeartbeats 4000000
namespace T
open PySem PySem.Spec PyProof.Rows L2
section
variable {F : NF} {r : Rg} {t n0 D s : Int}
/-! ### alike: by one number the one, by another one the other -/
def Ak (P Q : F.R → Prop) : Prop := ∃ c d : F.R, c ≠ 0 ∧ d ≠ 0 ∧ (∀ i, P i → ∃ j, Q j ∧ c * i = d * j) ∧ (∀ j, Q j → ∃ i, P i ∧ c * i = d * j)
theorem one_ne (hn : F.n = 2) : (1 : F.R) ≠ 0 := fun z => by
  have e1 : F.vec [1, 0] = (1 : F.R) := by rw [vec2]; grind
  have e0 : F.vec [0, 0] = (0 : F.R) := by rw [vec2]; grind
  have := (vec_inj2 hn (e1.trans (z.trans e0.symm))).1
  omega
theorem Ak.refl (hn : F.n = 2) (P : F.R → Prop) : Ak P P := ⟨1, 1, one_ne hn, one_ne hn, fun i hi => ⟨i, hi, rfl⟩, fun i hi => ⟨i, hi, rfl⟩⟩
theorem Ak.symm {P Q : F.R → Prop} (h : Ak P Q) : Ak Q P := by
  obtain ⟨c, d, hc, hd, h1, h2⟩ := h
  exact ⟨d, c, hd, hc, fun j hj => by obtain ⟨i, hi, e⟩ := h2 j hj; exact ⟨i, hi, e.symm⟩, fun i hi => by obtain ⟨j, hj, e⟩ := h1 i hi; exact ⟨j, hj, e.symm⟩⟩
theorem mul_ne (hi : F.Irr) {x y : F.R} (hx : x ≠ 0) (hy : y ≠ 0) : x * y ≠ 0 := fun z => by
  rcases NF.domain hi z with q | q
  · exact hx q
  · exact hy q
theorem Ak.trans (hi : F.Irr) {P Q S : F.R → Prop} (h : Ak P Q) (g : Ak Q S) : Ak P S := by
  obtain ⟨c, d, hc, hd, h1, h2⟩ := h
  obtain ⟨c', d', hc', hd', g1, g2⟩ := g
  refine ⟨c' * c, d * d', mul_ne hi hc' hc, mul_ne hi hd hd', fun i hi => ?_, fun k hk => ?_⟩
  · obtain ⟨j, hj, e⟩ := h1 i hi
    obtain ⟨k, hk, e'⟩ := g1 j hj
    exact ⟨k, hk, by rw [show c' * c * i = c' * (c * i) by grind, e, show c' * (d * j) = d * (c' * j) by grind, e']; grind⟩
  · obtain ⟨j, hj, e'⟩ := g2 k hk
    obtain ⟨i, hi, e⟩ := h2 j hj
    exact ⟨i, hi, by rw [show c' * c * i = c' * (c * i) by grind, e, show c' * (d * j) = d * (c' * j) by grind, e']; grind⟩
theorem Ak.congr {P Q P' Q' : F.R → Prop} (h : Ak P Q) (e : ∀ x, P x ↔ P' x) (e' : ∀ x, Q x ↔ Q' x) : Ak P' Q' := by
  obtain ⟨c, d, hc, hd, h1, h2⟩ := h
  refine ⟨c, d, hc, hd, fun i hi => ?_, fun j hj => ?_⟩
  · obtain ⟨j, hj, q⟩ := h1 i ((e i).mpr hi); exact ⟨j, (e' j).mp hj, q⟩
  · obtain ⟨i, hi, q⟩ := h2 j ((e' j).mpr hj); exact ⟨i, (e i).mp hi, q⟩
theorem Iv.uniq (hn : F.n = 2) {v : Int × Int} (hv : 0 < v.1) {x y x' y' : Int} (h : (x : F.R) * (v.1 : F.R) + (y : F.R) * ((v.2 : F.R) + F.cl PZ.X) = (x' : F.R) * (v.1 : F.R) + (y' : F.R) * ((v.2 : F.R) + F.cl PZ.X)) : x = x' ∧ y = y' := by
  have e : ∀ x y : Int, (x : F.R) * (v.1 : F.R) + (y : F.R) * ((v.2 : F.R) + F.cl PZ.X) = F.vec [x * v.1 + y * v.2, y] := fun x y => by
    rw [vec2]
    have : ((x * v.1 + y * v.2 : Int) : F.R) = (x : F.R) * (v.1 : F.R) + (y : F.R) * (v.2 : F.R) := by grind
    rw [this]; grind
  rw [e, e] at h
  obtain ⟨h1, h2⟩ := vec_inj2 hn h
  subst h2
  refine ⟨Int.eq_of_mul_eq_mul_right (a := v.1) (by omega) (by omega), rfl⟩
theorem alg1 {V x i j Y y p f : F.R} (h : V = x * (i * V + j * Y) + y * (p * V + f * Y)) : 1 * V + 0 * Y = (x * i + y * p) * V + (x * j + y * f) * Y := by grind
theorem alg2 {V x i j Y y p f : F.R} (h : Y = x * (i * V + j * Y) + y * (p * V + f * Y)) : 0 * V + 1 * Y = (x * i + y * p) * V + (x * j + y * f) * Y := by grind
theorem alg3 {W V V2 W2 X p f i j n0 t : F.R} (rt : n0 + t * X + X * X = 0) (h : W * (p * V + f * (V2 + X)) = (i * V + j * (V2 + X)) * (W2 + X)) : W * (p * V + f * V2) + (W * f) * X = ((i * V + j * V2) * W2 - n0 * j) + (i * V + j * V2 + j * W2 - t * j) * X := by
  have e1 : W * (p * V + f * V2) + (W * f) * X = W * (p * V + f * (V2 + X)) := by grind
  rw [e1, h]
  grind
/-- alike lattices have alike forms -/
theorem ak_rl (h : RF r F) (hn : F.n = 2) (e : r.1 = [n0, t, 1]) (hD : D = t * t - 4 * n0) {v w : Int × Int} (hv : 0 < v.1) (hw : 0 < w.1) (ak : Ak (Iv F v) (Iv F w)) {n : Int} (en : (2 * v.2 - t) * (2 * v.2 - t) - D = 4 * v.1 * n) : ∃ i j e f δ, Rl v.1 (2 * v.2 - t) n w.1 (2 * w.2 - t) i j e f δ := by
  have rt := root2 h e
  obtain ⟨α, β, hα, hβ, h1, h2⟩ := ak
  obtain ⟨m, ⟨i, j, em⟩, e1⟩ := h2 _ (Iv.ofA w)
  obtain ⟨m', ⟨p, f, em'⟩, e2⟩ := h2 _ (Iv.ofR w)
  have cm : (w.1 : F.R) * m' = m * ((w.2 : F.R) + F.cl PZ.X) := NF.cancel h.irr hα (by
    rw [show α * ((w.1 : F.R) * m') = (w.1 : F.R) * (α * m') by grind, e2, show α * (m * ((w.2 : F.R) + F.cl PZ.X)) = (α * m) * ((w.2 : F.R) + F.cl PZ.X) by grind, e1]
    grind)
  obtain ⟨_, ⟨x, y, rfl⟩, e3⟩ := h1 _ (Iv.ofA v)
  obtain ⟨_, ⟨x', y', rfl⟩, e4⟩ := h1 _ (Iv.ofR v)
  have b1 : (v.1 : F.R) = (x : F.R) * m + (y : F.R) * m' := NF.cancel h.irr hα (by
    rw [e3, show α * ((x : F.R) * m + (y : F.R) * m') = (x : F.R) * (α * m) + (y : F.R) * (α * m') by grind, e1, e2]
    grind)
  have b2 : (v.2 : F.R) + F.cl PZ.X = (x' : F.R) * m + (y' : F.R) * m' := NF.cancel h.irr hα (by
    rw [e4, show α * ((x' : F.R) * m + (y' : F.R) * m') = (x' : F.R) * (α * m) + (y' : F.R) * (α * m') by grind, e1, e2]
    grind)
  have i1 : ((1 : Int) : F.R) = 1 := by grind
  have i0 : ((0 : Int) : F.R) = 0 := by grind
  rw [em, em'] at b1 b2
  obtain ⟨c1, c2⟩ := Iv.uniq hn hv (x := 1) (y := 0) (x' := x * i + y * p) (y' := x * j + y * f) (by
    have g1 : ((x * i + y * p : Int) : F.R) = (x : F.R) * (i : F.R) + (y : F.R) * (p : F.R) := by grind
    have g2 : ((x * j + y * f : Int) : F.R) = (x : F.R) * (j : F.R) + (y : F.R) * (f : F.R) := by grind
    rw [g1, g2, i1, i0]
    exact alg1 b1)
  obtain ⟨c3, c4⟩ := Iv.uniq hn hv (x := 0) (y := 1) (x' := x' * i + y' * p) (y' := x' * j + y' * f) (by
    have g1 : ((x' * i + y' * p : Int) : F.R) = (x' : F.R) * (i : F.R) + (y' : F.R) * (p : F.R) := by grind
    have g2 : ((x' * j + y' * f : Int) : F.R) = (x' : F.R) * (j : F.R) + (y' : F.R) * (f : F.R) := by grind
    rw [g1, g2, i1, i0]
    exact alg2 b2)
  have det : (i * f - j * p) * (x * y' - x' * y) = 1 := by
    have : (i * f - j * p) * (x * y' - x' * y) = (x * i + y * p) * (x' * j + y' * f) - (x * j + y * f) * (x' * i + y' * p) := by grind
    rw [this, ← c1, ← c2, ← c3, ← c4]; rfl
  -- the places of w.1 m' = m (w.2 + X)
  rw [em, em'] at cm
  obtain ⟨k1, k2⟩ := vec_inj2 (F := F) hn (p := w.1 * (p * v.1 + f * v.2)) (q := w.1 * f) (p' := (i * v.1 + j * v.2) * w.2 - n0 * j) (q' := i * v.1 + j * v.2 + j * w.2 - t * j) (by
    rw [vec2, vec2]
    have g1 : ((w.1 * (p * v.1 + f * v.2) : Int) : F.R) = (w.1 : F.R) * ((p : F.R) * (v.1 : F.R) + (f : F.R) * (v.2 : F.R)) := by grind
    have g2 : ((w.1 * f : Int) : F.R) = (w.1 : F.R) * (f : F.R) := by grind
    have g3 : (((i * v.1 + j * v.2) * w.2 - n0 * j : Int) : F.R) = ((i : F.R) * (v.1 : F.R) + (j : F.R) * (v.2 : F.R)) * (w.2 : F.R) - (n0 : F.R) * (j : F.R) := by grind
    have g4 : ((i * v.1 + j * v.2 + j * w.2 - t * j : Int) : F.R) = (i : F.R) * (v.1 : F.R) + (j : F.R) * (v.2 : F.R) + (j : F.R) * (w.2 : F.R) - (t : F.R) * (j : F.R) := by grind
    rw [g1, g2, g3, g4]
    exact alg3 rt cm)
  have en' : v.2 * v.2 - t * v.2 + n0 = v.1 * n := by
    have : 4 * (v.2 * v.2 - t * v.2 + n0) = 4 * (v.1 * n) := by
      have a1 : (2 * v.2 - t) * (2 * v.2 - t) - D = 4 * (v.2 * v.2 - t * v.2 + n0) := by rw [hD]; grind
      have a2 : 4 * v.1 * n = 4 * (v.1 * n) := by grind
      omega
    omega
  -- two of them parted by a
  have k3 : w.1 * p = i * (w.2 - v.2) - j * n := by
    have : v.1 * (w.1 * p) = v.1 * (i * (w.2 - v.2) - j * n) := by
      have a1 : v.1 * (w.1 * p) = w.1 * (p * v.1 + f * v.2) - v.2 * (w.1 * f) := by grind
      rw [a1, k1, k2]
      have a2 : v.1 * (i * (w.2 - v.2) - j * n) = i * v.1 * (w.2 - v.2) - j * (v.1 * n) := by grind
      rw [a2, ← en']
      grind
    exact Int.eq_of_mul_eq_mul_left (by omega) this
  refine ⟨i, j, p, f, i * f - j * p, unit_of_mul (.inl det), rfl, ?_, ?_⟩
  · have : (i * f - j * p) * w.1 = i * (w.1 * f) - j * (w.1 * p) := by grind
    rw [this, k2, k3]
    grind
  · have a1 : i * (w.2 - v.2) = w.1 * p + j * n := by omega
    have a2 : j * (w.2 + v.2 - t) = w.1 * f - i * v.1 := by grind
    have : 2 * v.1 * i * p + (2 * v.2 - t) * (i * f + j * p) + 2 * n * j * f - (i * f - j * p) * (2 * w.2 - t) = 2 * v.1 * i * p + 2 * n * j * f - 2 * f * (i * (w.2 - v.2)) + 2 * p * (j * (w.2 + v.2 - t)) := by grind
    rw [a1, a2] at this
    grind
end
end T
set_option maxRecDepth 100000
set_option maxHeartbeats 4000000
namespace T
open PySem PySem.Spec PyProof.Rows L2
section
variable {F : NF} {r : Rg} {t n0 D s : Int}
theorem ky_lt (x y : Int × Int) : ltE (eRow eInt) (kyQ x) (kyQ y) = true ↔ x.1 < y.1 ∨ (x.1 = y.1 ∧ x.2 % x.1 < y.2 % y.1) := by
  unfold kyQ
  rw [ltE_cons al_int]
  by_cases c : x.1 = y.1
  · rw [if_pos c, ltE_cons al_int]
    by_cases c2 : x.2 % x.1 = y.2 % y.1
    · rw [if_pos c2, ltE_irrefl]
      refine ⟨fun z => (Bool.false_ne_true z).elim, fun z => ?_⟩
      omega
    · rw [if_neg c2, ltE_int, decide_eq_true_eq]
      omega
  · rw [if_neg c, ltE_int, decide_eq_true_eq]
    omega
theorem ky_same {x y : Int × Int} (h : x.1 = y.1) (d : x.1 ∣ x.2 - y.2) : kyQ x = kyQ y := by
  unfold kyQ
  rw [← h]
  congr 2
  exact Int.emod_eq_emod_iff_emod_sub_eq_zero.mpr (Int.emod_eq_zero_of_dvd d)
/-- none alike is ahead of y -/
def Lst2 (F : NF) (D t : Int) (y : Int × Int) : Prop := ∀ w : Int × Int, Fm D (uOf t w).1 (uOf t w).2 → Ak (Iv F y) (Iv F w) → ltE (eRow eInt) (kyQ w) (kyQ y) = false
theorem half_dvd {c x y : Int} (d : 2 * c ∣ (2 * x - t) - (2 * y - t)) : c ∣ x - y := by
  obtain ⟨k, hk⟩ := d
  have : 2 * c * k = 2 * (c * k) := by grind
  exact ⟨k, by omega⟩
theorem HighH.lst (h : RF r F) (hn : F.n = 2) (h2 : R2 r D t n0) (e : r.1 = [n0, t, 1]) (q : Dq D s) {y : Int × Int} (hy : HighH D s t y) : Lst2 F D t y := fun w hw ak => by
  obtain ⟨r1, _, _, e1⟩ := hy.rd.step q
  have yp : 0 < y.1 := hy.rd.fm.pos
  obtain ⟨i, j, e', f, δ, hR⟩ := ak_rl h hn e h2.dd (w := w) yp hw.pos ak (n := -(stpQ D s (uOf t y)).1) (by
    have e1 : 4 * y.1 * (stpQ D s (uOf t y)).1 = D - (2 * y.2 - t) * (2 * y.2 - t) := e1
    have : 4 * y.1 * -(stpQ D s (uOf t y)).1 = -(4 * y.1 * (stpQ D s (uOf t y)).1) := by grind
    omega)
  obtain ⟨z, ⟨k, hz⟩, o⟩ := cyc_all q (hy.rd.cyc q) (x := uOf t y) ⟨0, rfl⟩ hw.pos hR
  have xu := xsQ_u h2 q hy.rd k
  have le := hy.least k _ xu
  rw [← hz] at xu
  have x1 : (uOf t (xsQ D s t (uOf t y) k)).1 = z.1 := congrArg Prod.fst xu
  have x1 : (xsQ D s t (uOf t y) k).1 = z.1 := x1
  have x2 : (uOf t (xsQ D s t (uOf t y) k)).2 = z.2 := congrArg Prod.snd xu
  have x2 : 2 * (xsQ D s t (uOf t y) k).2 - t = z.2 := x2
  rcases o with ⟨o1, o2⟩ | o
  · have o1 : z.1 = w.1 := o1
    rw [← x2] at o2
    have := ky_same (x := w) (y := xsQ D s t (uOf t y) k) (by omega) (half_dvd o2)
    rw [this]
    exact le
  · have o : z.1 < w.1 := o
    cases c : ltE (eRow eInt) (kyQ w) (kyQ y) with
    | false => rfl
    | true =>
      have := ltE_trans ((ky_lt (xsQ D s t (uOf t y) k) w).mpr (.inl (by omega))) c
      rw [le] at this
      cases this
theorem LowH.lst (h : RF r F) (hn : F.n = 2) (h2 : R2 r D t n0) (e : r.1 = [n0, t, 1]) (hD : D < 0) {y z : Int × Int} (hy : LowH D t y z) : Lst2 F D t y := fun w hw ak => by
  have yp : 0 < y.1 := hy.br.fm.pos
  have z1 : z.1 = stA D (uOf t y).1 (uOf t y).2 := congrArg Prod.fst hy.nx
  have ea := stA_eq hy.br.fm
  rw [← z1] at ea
  have uu := sq0 (uOf t y).2
  obtain ⟨i, j, e', f, δ, hR⟩ := ak_rl h hn e h2.dd (w := w) yp hw.pos ak (n := z.1) (by
    have ea : 4 * y.1 * z.1 = (((uOf t y).2 * (uOf t y).2 - D).natAbs : Int) := ea
    show (uOf t y).2 * (uOf t y).2 - D = _
    omega)
  have lo := hy.br.lo
  have hi := hy.br.hi
  have q1 : (uOf t y).1 = y.1 := rfl
  rw [q1, show max y.1 0 = y.1 by omega] at lo hi
  rcases low_out hR yp hy.le (show -y.1 < (uOf t y).2 by omega) hi hw.pos with ⟨o1, o2⟩ | ⟨o1, o2⟩ | o
  · have o1 : w.1 = y.1 := o1
    rw [← o1] at o2
    rw [ky_same (x := w) (y := y) o1 (half_dvd o2)]
    exact ltE_irrefl _
  · have o1 : w.1 = z.1 := o1
    have d : 2 * z.1 ∣ (2 * z.2 - t) + (2 * y.2 - t) := by
      have w2 : 2 * z.2 - t = brU (max (stA D (uOf t y).1 (uOf t y).2) 0) (stA D (uOf t y).1 (uOf t y).2) (-(2 * y.2 - t)) := congrArg Prod.snd hy.nx
      rw [← z1] at w2
      have := brU_rest (top := max z.1 0) (a := z.1) (v := -(2 * y.2 - t))
      rw [← w2] at this
      rwa [show ∀ x : Int, x - -(2 * y.2 - t) = x + (2 * y.2 - t) from fun x => by omega] at this
    have dd := Int.dvd_sub o2 d
    rw [show 2 * w.2 - t + (2 * y.2 - t) - (2 * z.2 - t + (2 * y.2 - t)) = (2 * w.2 - t) - (2 * z.2 - t) by omega] at dd
    rw [ky_same (x := w) (y := z) o1 (by rw [o1]; exact half_dvd dd)]
    cases c : ltE (eRow eInt) (kyQ z) (kyQ y) with
    | false => rfl
    | true =>
      rcases (ky_lt z y).mp c with p | ⟨p, p'⟩
      · have := hy.le; omega
      · exact absurd p' (hy.no p)
  · have o : y.1 < w.1 := o
    cases c : ltE (eRow eInt) (kyQ w) (kyQ y) with
    | false => rfl
    | true =>
      rcases (ky_lt w y).mp c with p | ⟨p, _⟩
      · omega
      · omega
end
end T
set_option maxRecDepth 100000
set_option maxHeartbeats 4000000
namespace T
open PySem PySem.Spec PyProof.Rows L2
/-- a ring of degree two that was made -/
def G2 (r : Rg) : Prop := RgG r ∧ r.1.length = 3
theorem G2.of {a b c : Int} {r : Rg} (e : T.m_Ring [a, b, c] = ok r) : G2 r := ⟨.of e, by rw [(ring_inv e).1]; rfl⟩
end T
set_option maxRecDepth 100000
set_option maxHeartbeats 4000000
namespace T
open PySem PySem.Spec PyProof.Rows L2
section
variable {F : NF} {r : Rg} {t n0 : Int}
end
end T
set_option maxRecDepth 100000
set_option maxHeartbeats 4000000
namespace T
open PySem PySem.Spec PyProof.Rows L2
/-! ### degree two by hand, for numbers of any size that the guards allow -/
section
variable {F : NF} {r : Rg} {t n0 : Int}
end
end T
set_option maxRecDepth 100000
set_option maxHeartbeats 4000000
namespace T
open PySem PySem.Spec PyProof.Rows L2
section
variable {F : NF} {r : Rg} {t n0 : Int}
theorem nQ_prod (t n0 x0 x1 p q : Int) : nQ t n0 (x0 * p + x1 * -(n0 * q)) (x0 * q + x1 * (p - t * q)) = nQ t n0 x0 x1 * nQ t n0 p q := by
  unfold nQ
  grind
end
end T
set_option maxRecDepth 100000
set_option maxHeartbeats 4000000
namespace T
open PySem PySem.Spec PyProof.Rows L2
/-! ### norms that are forbidden -/
end T
set_option maxRecDepth 100000
set_option maxHeartbeats 4000000
namespace T
open PySem PySem.Spec PyProof.Rows L2
section
variable {F : NF} {r : Rg} {t n0 : Int}
end
end T
set_option maxRecDepth 100000
set_option maxHeartbeats 4000000
namespace T
open PySem PySem.Spec PyProof.Rows L2
section
variable {F : NF} {r : Rg} {t n0 : Int}
end
end T
set_option maxRecDepth 100000
set_option maxHeartbeats 4000000
namespace T
open PySem PySem.Spec PyProof.Rows L2
section
variable {F : NF} {r : Rg} {t n0 : Int}
end
end T
set_option maxRecDepth 100000
set_option maxHeartbeats 4000000
namespace T
/-! ### how many reduced ones there are -/
section
variable {D s : Int}
end
end T
set_option maxRecDepth 100000
set_option maxHeartbeats 4000000
namespace T
open PySem PySem.Spec PyProof.Rows L2
/-! ### units of a ring of degree two with a measure above nought -/
def qQ (D s : Int) (x : Int × Int) : Int := ((stpQ D s x).2 + x.2) / (2 * (stpQ D s x).1)
/-- the numbers that the walk meets: (I, J) of one and of the next -/
def IJ (D s : Int) (X : Int × Int) : Nat → (Int × Int) × (Int × Int)
  | 0 => ((1, 0), (0, 1))
  | k + 1 => ((IJ D s X k).2, ((IJ D s X k).1.1 + qQ D s (itQ D s X k) * (IJ D s X k).2.1, (IJ D s X k).1.2 + qQ D s (itQ D s X k) * (IJ D s X k).2.2))
section
variable {D s : Int} {X : Int × Int}
end
section
variable {F : NF} {r : Rg} {t n0 D s : Int}
end
end T
set_option maxRecDepth 100000
set_option maxHeartbeats 4000000
namespace T
open PySem PySem.Spec PyProof.Rows L2
/-- a unit of two places above nought -/
structure Un (t n0 p q : Int) : Prop where
  q1 : 1 ≤ q
  u1 : 1 ≤ 2 * p - t * q
  nm : nQ t n0 p q = 1 ∨ nQ t n0 p q = -1
section
variable {F : NF} {r : Rg} {t n0 D s : Int}
/-- a unit above nought has both its places above nought -/
theorem Un.up {r : Rg} {t n0 ρ p' q' : Int} (h2 : R2 r D t n0) (q : Dq D s) (hX : Rd D s (uOf t (1, ρ))) (u : Un t n0 p' q') : 0 ≤ p' - q' * ρ := by
  obtain ⟨r1, _, _, e⟩ := hX.step q
  have e : 4 * 1 * (stpQ D s (uOf t (1, ρ))).1 = D - (2 * ρ - t) * (2 * ρ - t) := e
  have a1 := r1.fm.pos
  have u0 : 0 < 2 * ρ - t := hX.upos
  have n4 : 4 * nQ t n0 p' q' = (2 * p' - t * q') * (2 * p' - t * q') - D * (q' * q') := by rw [h2.dd]; unfold nQ; grind
  have q1 := u.q1
  have U1 := u.u1
  have nm := u.nm
  apply Classical.byContradiction
  intro z
  obtain ⟨U, hU⟩ : ∃ U, U = 2 * p' - t * q' := ⟨_, rfl⟩
  obtain ⟨u1, hu1⟩ : ∃ u1, u1 = 2 * ρ - t := ⟨_, rfl⟩
  have hq : 2 * (p' - q' * ρ) = U - q' * u1 := by rw [hU, hu1]; grind
  rw [← hU] at n4 U1
  rw [← hu1] at e u0
  have lt : U ≤ q' * u1 - 1 := by omega
  have x1 : U * U ≤ (q' * u1 - 1) * (q' * u1 - 1) := Int.mul_le_mul lt lt (by omega) (by omega)
  have x2 : (q' * u1 - 1) * (q' * u1 - 1) = q' * q' * (u1 * u1) - 2 * (q' * u1) + 1 := by grind
  have x3 : 1 * 1 ≤ q' * u1 := Int.mul_le_mul q1 u0 (by omega) (by omega)
  have qq : 1 * 1 ≤ q' * q' := Int.mul_le_mul q1 q1 (by omega) (by omega)
  have x4 : (u1 * u1 + 4) * (q' * q') ≤ D * (q' * q') := Int.mul_le_mul_of_nonneg_right (by omega) (by omega)
  have x5 : (u1 * u1 + 4) * (q' * q') = q' * q' * (u1 * u1) + 4 * (q' * q') := by grind
  omega
end
end T
set_option maxRecDepth 100000
set_option maxHeartbeats 4000000
namespace T
open PySem PySem.Spec PyProof.Rows L2
section
variable {F : NF} {r : Rg} {t n0 : Int}
/-- products of units above nought are such, and not less -/
theorem Un.mul (h2 : R2 r r.2.2 t n0) (pos : 5 ≤ r.2.2) {p q p' q' : Int} (u : Un t n0 p q) (v : Un t n0 p' q') :
    Un t n0 (p * p' + q * -(n0 * q')) (p * q' + q * (p' - t * q')) ∧ q ≤ p * q' + q * (p' - t * q') ∧ 2 * p - t * q ≤ 2 * (p * p' + q * -(n0 * q')) - t * (p * q' + q * (p' - t * q')) := by
  obtain ⟨q1, u1, nu⟩ := u
  obtain ⟨q1', u1', nv⟩ := v
  have dd := h2.dd
  obtain ⟨U, hU⟩ : ∃ U, U = 2 * p - t * q := ⟨_, rfl⟩
  obtain ⟨V, hV⟩ : ∃ V, V = 2 * p' - t * q' := ⟨_, rfl⟩
  have n4 : 4 * nQ t n0 p q = U * U - r.2.2 * (q * q) := by rw [hU, dd]; unfold nQ; grind
  have e1 : 2 * (p * q' + q * (p' - t * q')) = U * q' + q * V := by rw [hU, hV]; grind
  have e2 : 2 * (2 * (p * p' + q * -(n0 * q')) - t * (p * q' + q * (p' - t * q'))) = U * V + r.2.2 * (q * q') := by rw [hU, hV, dd]; grind
  rw [← hU] at u1 ⊢
  rw [← hV] at u1'
  have qq : 1 * 1 ≤ q * q := Int.mul_le_mul q1 q1 (by omega) (by omega)
  have Dq : 5 * (q * q) ≤ r.2.2 * (q * q) := Int.mul_le_mul_of_nonneg_right pos (by omega)
  have Uq : q ≤ U := by
    apply Classical.byContradiction
    intro z
    have x1 : U * U ≤ (q - 1) * (q - 1) := Int.mul_le_mul (by omega) (by omega) (by omega) (by omega)
    have x2 : (q - 1) * (q - 1) = q * q - 2 * q + 1 := by grind
    omega
  have DU : U ≤ r.2.2 * q := by
    apply Classical.byContradiction
    intro z
    have x1 : r.2.2 * q * (r.2.2 * q) ≤ U * U := Int.mul_le_mul (by omega) (by omega) (Int.mul_nonneg (by omega) (by omega)) (by omega)
    have x2 : r.2.2 * q * (r.2.2 * q) = r.2.2 * (r.2.2 * (q * q)) := by grind
    have x3 : 5 * (r.2.2 * (q * q)) ≤ r.2.2 * (r.2.2 * (q * q)) := Int.mul_le_mul_of_nonneg_right pos (by omega)
    omega
  have y1 : U * 1 ≤ U * q' := Int.mul_le_mul_of_nonneg_left q1' (by omega)
  have y2 : q * 1 ≤ q * V := Int.mul_le_mul_of_nonneg_left u1' (by omega)
  have y3 : U * 1 ≤ U * V := Int.mul_le_mul_of_nonneg_left u1' (by omega)
  have y4 : r.2.2 * q * 1 ≤ r.2.2 * q * q' := Int.mul_le_mul_of_nonneg_left q1' (Int.mul_nonneg (by omega) (by omega))
  have y5 : r.2.2 * q * q' = r.2.2 * (q * q') := Int.mul_assoc ..
  refine ⟨⟨by omega, by omega, ?_⟩, by omega, by omega⟩
  rw [nQ_prod]
  rcases nu with a | a <;> rcases nv with b | b <;> rw [a, b] <;> decide
end
end T
set_option maxRecDepth 100000
set_option maxHeartbeats 4000000
namespace T
open PySem PySem.Spec PyProof.Rows L2
/-! which tables are ideals' tables -/
def RowC (n : Nat) (A : List (List Int)) (i : Nat) : Prop := (A.getD i []).length = n ∧ 1 ≤ co (A.getD i []) i ∧ ∀ j, j < n → (i < j → co (A.getD i []) j = 0) ∧ (j < i → 0 ≤ co (A.getD i []) j ∧ co (A.getD i []) j < co (A.getD j []) j)
def StairC (n : Nat) (A : List (List Int)) : Prop := A.length = n ∧ ∀ i, i < n → RowC n A i
section
variable {F : NF} {r : Rg}
theorem StairC.rows {n : Nat} {A : List (List Int)} (h : StairC n A) {row : List Int} (hr : row ∈ A) : row.length = n := by
  obtain ⟨i, hi⟩ := List.getElem?_of_mem hr
  have hi2 := (List.getElem?_eq_some_iff.mp hi).1
  have := (h.2 i (by have := h.1; omega)).1
  rw [List.getD_eq_getElem?_getD, hi] at this
  exact this
theorem StairC.sta {A : List (List Int)} (h : StairC F.n A) : StA F A := by
  have cv : ∀ i, i < F.n → ∀ t, NF.co (tv F A i) t = T.co (A.getD i []) t := fun i hi t => NF.co_vec (h.2 i hi).1 t
  refine ⟨h.1, fun row hr => h.rows hr, ⟨⟨fun i j hi hj => ?_, fun i hi => ?_⟩, fun i j hi hj => ?_⟩⟩
  · rw [cv i hi]
    by_cases z : j < F.n
    · exact ((h.2 i hi).2.2 j z).1 hj
    · exact co_out (by rw [(h.2 i hi).1]; omega)
  · rw [cv i hi]; have := (h.2 i hi).2.1; omega
  · rw [cv i hi, cv j (by omega)]
    exact ((h.2 i hi).2.2 j (by omega)).2 hj
/-- the table of an ideal -/
def IdealC (F : NF) (A : List (List Int)) : Prop := StairC F.n A ∧ ∀ row ∈ A, LA F A (F.cl PZ.X * F.vec row)
end
end T
set_option maxRecDepth 100000
set_option maxHeartbeats 4000000
namespace T
open PySem PySem.Spec PyProof.Rows L2
/-! which tables are primes' tables; the laws' look at any table -/
section
variable {F : NF} {r : Rg}
theorem IsId.of_rows {A : List (List Int)} (hA : StA F A) (h : ∀ row ∈ A, LA F A (F.cl PZ.X * F.vec row)) : IsId (LA F A) := by
  refine ⟨Sp.is _, fun {x} hx => ?_⟩
  have : IsSub fun x : F.R => LA F A (F.cl PZ.X * x) := ⟨by rw [show F.cl PZ.X * (0 : F.R) = 0 by grind]; exact (Sp.is _).zero, fun {x y} h1 h2 => by
    rw [show F.cl PZ.X * (x - y) = F.cl PZ.X * x - F.cl PZ.X * y by grind]; exact (Sp.is _).sub h1 h2⟩
  refine hx _ this fun g ⟨i, hi, hg⟩ => ?_
  rw [hg]
  exact h _ (getD_mem (by rw [hA.len]; exact hi))
theorem IdealC.idl {A : List (List Int)} (h : IdealC F A) : Idl F A := ⟨h.1.sta, IsId.of_rows h.1.sta h.2⟩
/-- an ideal that is greatest and holds a small prime -/
def SeesP (F : NF) (A : List (List Int)) : Prop := IdealC F A ∧ Mx (LA F A) ∧ ∃ p ∈ primesL, LA F A (p : F.R)
theorem SeesP.c0 (h : RF r F) {A : List (List Int)} (hs : SeesP F A) : T.c0 A ∈ primesL := by
  obtain ⟨h1, h2, p, hp, h3⟩ := hs
  rw [c0_prime h hp h1.idl h3 h2.ne]; exact hp
end
end T
set_option maxRecDepth 100000
set_option maxHeartbeats 4000000
namespace T
open PySem PySem.Spec PyProof.Rows L2
section
variable {F : NF} {r : Rg}
end
end T
set_option maxRecDepth 100000
set_option maxHeartbeats 4000000
namespace T
open PySem PySem.Spec PyProof.Rows L2
/-! how an ideal is taken, whatever the order -/
section
variable {F : NF} {r : Rg}
end
end T
set_option maxRecDepth 100000
set_option maxHeartbeats 4000000
namespace T
open PySem PySem.Spec PyProof.Rows L2
/-! a polynomial falls into parts modulo p in one way alone -/
theorem Split.nd {p : Int} {f : List Int} {l : List (List Int × Int)} (h : Split p f l) : (l.map (·.1)).Nodup := by
  obtain ⟨lins, rest, rfl, hl, hr⟩ := h.ord
  rw [List.map_append, List.nodup_append]
  have long : ∀ x ∈ rest, 3 ≤ x.1.length := fun x hx => by
    rcases hr with rfl | ⟨g, e, rfl, h3, _⟩ | ⟨g, k, rfl, h1, h2, _⟩
    · exact absurd hx (by simp)
    · rw [List.mem_singleton.mp hx]; exact h3
    · simp only [List.mem_cons, List.not_mem_nil, or_false] at hx
      rcases hx with rfl | rfl
      · exact Nat.le_of_eq h1.symm
      · exact Nat.le_of_eq h2.symm
  refine ⟨List.pairwise_map.mpr (hl.up.imp fun {a b} lt e => by rw [e] at lt; omega), ?_, fun a ha b hb e => ?_⟩
  · rcases hr with rfl | ⟨g, e, rfl, h3, _⟩ | ⟨g, k, rfl, h1, h2, ne, _⟩
    · simp
    · simp
    · simp [ne]
  · obtain ⟨x, hx, rfl⟩ := List.mem_map.mp ha
    obtain ⟨y, hy, rfl⟩ := List.mem_map.mp hb
    obtain ⟨low, k, rfl, _⟩ := hl.mem x hx
    have := long y hy
    rw [← e] at this
    simp at this
end T
set_option maxRecDepth 100000
set_option maxHeartbeats 4000000
namespace T
open PySem PySem.Spec PyProof.Rows L2 TL
/-! ### texts of whole numbers, rows and tables -/
/-- a whole number, written -/
def numT (n : Int) : Str := Str.ofString (toString n)
theorem tl_numT (n : Int) : tl (numT n) = (if n < 0 then [45] else []) ++ numL n.natAbs := by
  cases n with
  | ofNat k =>
    rw [if_neg (show ¬ (Int.ofNat k < 0) from Int.not_lt.mpr (Int.natCast_nonneg k))]
    exact tl_num k
  | negSucc k =>
    rw [if_pos (Int.negSucc_lt_zero k)]
    show tl (Str.ofString (toString (Int.negSucc k))) = [45] ++ numL (k + 1)
    have e : toString (Int.negSucc k) = "-" ++ toString (k + 1) := rfl
    rw [e, tl_ofString, String.toList_append, List.map_append]
    have := tl_num (k + 1)
    rw [tl_ofString] at this
    rw [show (toString ((k + 1 : Nat) : Int)) = toString (k + 1) from rfl] at this
    rw [this]
    rfl
theorem pstr_ok {n : Int} (h : n.natAbs.log2 < 1920) : pstr n = ok (numT n) := grd_pos h _
theorem numL_pos {n : Nat} (h : 0 < n) : ∃ c r, numL n = c :: r ∧ c ≠ 48 := by
  induction n using Nat.strongRecOn with
  | _ n ih =>
    by_cases c : n < 10
    · exact ⟨48 + n, [], numL_lt c, by omega⟩
    · obtain ⟨d, r, e, hd⟩ := ih (n / 10) (by omega) (by omega)
      exact ⟨d, r ++ [48 + n % 10], by rw [numL_step (by omega), e]; rfl, hd⟩
theorem numL_dig {n c : Nat} (h : c ∈ numL n) : 48 ≤ c ∧ c ≤ 57 := by
  apply Classical.byContradiction
  intro z
  exact numL_free (n := n) (s := c) (by omega) h
theorem numT_dig {n : Int} {c : Nat} (h : c ∈ tl (numT n)) : c = 45 ∨ 48 ≤ c ∧ c ≤ 57 := by
  rw [tl_numT] at h
  rcases List.mem_append.mp h with z | z
  · left
    split at z
    · exact List.mem_singleton.mp z
    · exact absurd z (by simp)
  · exact .inr (numL_dig z)
theorem numT_len {n : Int} {k : Nat} (hk : 0 < k) (h : n.natAbs < 10 ^ k) : (numT n).length ≤ k + 1 := by
  rw [len_tl, tl_numT, List.length_append]
  have := numL_len hk h
  split <;> simp <;> omega
theorem int_numT {n : Int} {k : Nat} (hk : 0 < k) (hk2 : k ≤ 600) (h : n.natAbs < 10 ^ k) : pintS (numT n) = ok n := by
  have hl := numT_len hk h
  have key : intText? (numT n) = some n := by
    have e := tl_numT n
    by_cases c : n < 0
    · rw [if_pos c] at e
      rw [intText_neg (cs := numL n.natAbs) e (numL_digits _) (numL_ne _) (by omega), numL_val]
      congr 1
      omega
    · rw [if_neg c, List.nil_append] at e
      rw [intText_digits (x := numT n) (by rw [show (numT n).cps.toList = numL n.natAbs from e]; exact numL_digits _) (by rw [show (numT n).cps.toList = numL n.natAbs from e]; exact numL_ne _) (by omega), show (numT n).cps.toList = numL n.natAbs from e, numL_val]
      congr 1
      omega
  unfold pintS
  rw [key]
  exact grd_pos (by omega) _
theorem cutT_to1 {a : Str} (h : a.length ≤ 16777216) : cutT a none (some 1) = ok ⟨((tl a).take 1).toArray⟩ := by
  unfold cutT
  rw [grd_pos h]
  congr 1
  unfold cutS
  have e : HT.sIx a.length a.length (some 1) = min 1 a.length := by
    unfold HT.sIx
    first | rfl | (simp; omega) | simp
  have e0 : HT.sIx a.length 0 none = 0 := rfl
  rw [e0, e, List.drop_zero, Nat.sub_zero]
  refine ext_tl ?_
  show (tl a).take (min 1 a.length) = (tl a).take 1
  rw [len_tl]
  cases tl a <;> simp
theorem cutT_from1 {a : Str} (h : a.length ≤ 16777216) : cutT a (some 1) none = ok ⟨((tl a).drop 1).toArray⟩ := by
  unfold cutT
  rw [grd_pos h]
  congr 1
  unfold cutS
  have e : HT.sIx a.length 0 (some 1) = min 1 a.length := by
    unfold HT.sIx
    first | rfl | (simp; omega) | simp
  have e0 : HT.sIx a.length a.length none = a.length := rfl
  rw [e0, e]
  refine ext_tl ?_
  show ((tl a).drop (min 1 a.length)).take (a.length - min 1 a.length) = (tl a).drop 1
  rw [len_tl]
  cases tl a with
  | nil => rfl
  | cons c r =>
    rw [show min 1 (c :: r).length = 1 by simp]
    simp
theorem dig_in : ∀ k : Nat, k < 10 → inS ⟨#[48 + k]⟩ "0123456789" = true := by decide +kernel
theorem pre_second {S0 c S2 : Nat} {l : List Nat} (h : pre [S0, c, S2] l = true) : l[1]? = some c := by
  unfold pre at h
  have e : l.take 3 = [S0, c, S2] := by simpa using h
  have : (l.take 3)[1]? = some c := by rw [e]; rfl
  rwa [List.getElem?_take, if_pos (by decide)] at this
theorem pre3 {c : Nat} {p rest : List Nat} (h : c ∉ p) (hc : c ≠ 32) : ∀ i, i < p.length → pre [32, c, 32] ((p ++ ([32, c, 32] ++ rest)).drop i) = false := fun i hi => by
  cases e : pre [32, c, 32] ((p ++ ([32, c, 32] ++ rest)).drop i) with
  | false => rfl
  | true =>
    exfalso
    have := pre_second e
    rw [List.getElem?_drop] at this
    by_cases q : i + 1 < p.length
    · rw [List.getElem?_append_left q] at this
      exact h (List.mem_of_getElem? this)
    · rw [List.getElem?_append_right (by omega), show i + 1 - p.length = 0 by omega] at this
      have : (32 : Nat) = c := by simpa using this
      exact hc this.symm
theorem pre3_last {c : Nat} {p : List Nat} (h : c ∉ p) : ∀ i, i < p.length → pre [32, c, 32] (p.drop i) = false := fun i hi => by
  cases e : pre [32, c, 32] (p.drop i) with
  | false => rfl
  | true =>
    exfalso
    have := pre_second e
    rw [List.getElem?_drop] at this
    exact h (List.mem_of_getElem? this)
theorem spl_join3 {c : Nat} (hc : c ≠ 32) : ∀ {parts : List (List Nat)}, parts ≠ [] → (∀ p ∈ parts, c ∉ p) → spl [32, c, 32] 0 [] (joinL [32, c, 32] parts) = parts
  | [], h, _ => absurd rfl h
  | [p], _, hp => by
    show spl [32, c, 32] 0 [] p = [p]
    rw [spl_last (pre3_last (hp p (by simp))), List.nil_append]
  | p :: q :: r, _, hp => by
    show spl [32, c, 32] 0 [] (p ++ ([32, c, 32] ++ joinL [32, c, 32] (q :: r))) = p :: q :: r
    rw [spl_part (by simp) (pre3 (hp p (by simp)) hc), List.nil_append, spl_join3 hc (by simp) fun z hz => hp z (List.mem_cons_of_mem _ hz)]
theorem split_join3 {y : Str} {c : Nat} (ey : tl y = [32, c, 32]) (hc : c ≠ 32) (hk : y.cps.all (· < 256) = true) {parts : List Str} (hne : parts ≠ []) (hp : ∀ p ∈ parts, c ∉ tl p) : Txt.split (Txt.join y parts) y = parts := by
  refine map_tl_inj ?_
  rw [split_spl _ y (by rw [ey]; simp) (kind_ok hk), join_eq, tl_join, ey]
  refine spl_join3 hc (fun e => hne (List.map_eq_nil_iff.mp e)) fun p h => ?_
  obtain ⟨z, hz, rfl⟩ := List.mem_map.mp h
  exact hp z hz
theorem tl_Tjoin (y : Str) (parts : List Str) : tl (Txt.join y parts) = joinL (tl y) (parts.map tl) := by rw [join_eq, tl_join]
theorem mem_joinL {S : List Nat} {c : Nat} : ∀ {ps : List (List Nat)}, c ∈ joinL S ps → c ∈ S ∨ ∃ p ∈ ps, c ∈ p
  | [], h => absurd h (by simp [joinL])
  | [p], h => .inr ⟨p, by simp, h⟩
  | p :: q :: r, h => by
    rcases List.mem_append.mp (show c ∈ p ++ (S ++ joinL S (q :: r)) from h) with z | z
    · exact .inr ⟨p, by simp, z⟩
    · rcases List.mem_append.mp z with z | z
      · exact .inl z
      · rcases mem_joinL z with z | ⟨w, hw, z⟩
        · exact .inl z
        · exact .inr ⟨w, List.mem_cons_of_mem _ hw, z⟩
theorem joinL_len (S : List Nat) {L : Nat} : ∀ {ps : List (List Nat)}, (∀ p ∈ ps, p.length ≤ L) → (joinL S ps).length ≤ ps.length * (L + S.length)
  | [], _ => by simp [joinL]
  | [p], h => by
    show p.length ≤ _
    have := h p (by simp)
    simp; omega
  | p :: q :: r, h => by
    show (p ++ (S ++ joinL S (q :: r))).length ≤ _
    have h1 := h p (by simp)
    have := joinL_len S (ps := q :: r) fun z hz => h z (List.mem_cons_of_mem _ hz)
    rw [List.length_append, List.length_append, List.length_cons, Nat.succ_mul]
    omega
theorem Tjoin_len {y : Str} {L : Nat} {parts : List Str} (h : ∀ p ∈ parts, p.length ≤ L) : (Txt.join y parts).length ≤ parts.length * (L + y.length) := by
  rw [len_tl, tl_Tjoin]
  have := joinL_len (tl y) (L := L) (ps := parts.map tl) fun p hp => by
    obtain ⟨z, hz, rfl⟩ := List.mem_map.mp hp
    rw [← len_tl]; exact h z hz
  rw [List.length_map, ← len_tl y] at this
  exact this
theorem sum_le {L : Nat} : ∀ {l : List Nat}, (∀ x ∈ l, x ≤ L) → l.sum ≤ l.length * L
  | [], _ => Nat.zero_le _
  | x :: l, h => by
    have h1 := h x (by simp)
    have := sum_le fun z hz => h z (List.mem_cons_of_mem x hz)
    rw [List.sum_cons, List.length_cons, Nat.succ_mul]
    omega
theorem pjoin_ok {y : Str} {L : Nat} {parts : List Str} (h : ∀ p ∈ parts, p.length ≤ L) (hl : parts.length * (L + y.length) ≤ 16777216) : pjoin y parts = ok (Txt.join y parts) := by
  refine grd_pos ?_ _
  have := sum_le (l := parts.map (·.length)) (L := L) fun x hx => by
    obtain ⟨z, hz, rfl⟩ := List.mem_map.mp hx
    exact h z hz
  rw [List.length_map] at this
  rw [Nat.mul_add] at hl
  omega
/-- what is written: rows, tables, parts -/
def rowT (row : List Int) : Str := Txt.join " " (row.map numT)
def tabT (t : List (List Int)) : Str := Txt.join " / " (t.map rowT)
def partT (x : List (List Int) × Int) : Str := tabT x.1 ++ " ^ " ++ numT x.2
theorem rowT_ch {row : List Int} {c : Nat} (h : c ∈ tl (rowT row)) : c = 32 ∨ c = 45 ∨ 48 ≤ c ∧ c ≤ 57 := by
  unfold rowT at h
  rw [tl_Tjoin] at h
  rcases mem_joinL h with z | ⟨p, hp, z⟩
  · left; exact List.mem_singleton.mp z
  · obtain ⟨s, hs, rfl⟩ := List.mem_map.mp hp
    obtain ⟨n, _, rfl⟩ := List.mem_map.mp hs
    exact .inr (numT_dig z)
theorem tabT_ch {t : List (List Int)} {c : Nat} (h : c ∈ tl (tabT t)) : c = 32 ∨ c = 47 ∨ c = 45 ∨ 48 ≤ c ∧ c ≤ 57 := by
  unfold tabT at h
  rw [tl_Tjoin] at h
  rcases mem_joinL h with z | ⟨p, hp, z⟩
  · have : c = 32 ∨ c = 47 ∨ c = 32 := by simpa [tl] using (show c ∈ [32, 47, 32] from z)
    omega
  · obtain ⟨s, hs, rfl⟩ := List.mem_map.mp hp
    obtain ⟨n, _, rfl⟩ := List.mem_map.mp hs
    have := rowT_ch z
    omega
theorem partT_ch {x : List (List Int) × Int} {c : Nat} (h : c ∈ tl (partT x)) : c = 32 ∨ c = 94 ∨ c = 47 ∨ c = 45 ∨ 48 ≤ c ∧ c ≤ 57 := by
  unfold partT at h
  rw [tl_append, tl_append] at h
  rcases List.mem_append.mp h with z | z
  · rcases List.mem_append.mp z with z | z
    · have := tabT_ch z; omega
    · have : c = 32 ∨ c = 94 ∨ c = 32 := by simpa [tl] using (show c ∈ [32, 94, 32] from z)
      omega
  · have := numT_dig z; omega
end T
namespace K86Law
open PySem PySem.Spec PyProof.Rows L2 T
set_option maxRecDepth 100000
set_option maxHeartbeats 4000000
def topS (i : Nat) : Stmt := PySem.Challenge.pw_ringhouse_k86_written.main.body.getD i (.Pass ⟨0, 0, 0, 0⟩)
abbrev s_shown_row : Stmt := topS 6
abbrev s_shown_table : Stmt := topS 7
abbrev s_shown_parts : Stmt := topS 8
abbrev s_is_number : Stmt := topS 9
abbrev s_read_number : Stmt := topS 10
abbrev s_read_row : Stmt := topS 11
abbrev s_read_table : Stmt := topS 12
abbrev s_read_parts : Stmt := topS 13
abbrev s__law_cell : Stmt := topS 15
abbrev s__law_mixed : Stmt := topS 16
abbrev s__law_draws : Stmt := topS 17
abbrev s__law_whole : Stmt := topS 18
abbrev s__law_row : Stmt := topS 19
abbrev s__law_is_table : Stmt := topS 20
abbrev s__law_places : Stmt := topS 21
abbrev s__law_square_table : Stmt := topS 22
abbrev s__law_few_parts : Stmt := topS 23
abbrev s__law_row_text : Stmt := topS 24
abbrev s__law_table_text : Stmt := topS 25
abbrev s__law_parts_text : Stmt := topS 26
abbrev s__law_is_parts : Stmt := topS 27
abbrev s__law_wide_table : Stmt := topS 28
abbrev s_law : Stmt := topS 29
abbrev N_shown_row : List Str := ["row", "place"]
abbrev N_shown_table : List Str := ["table", "row"]
abbrev N_shown_parts : List Str := ["parts", "table", "often"]
abbrev N_is_number : List Str := ["word", "figures", "sign"]
abbrev N_read_number : List Str := ["word"]
abbrev N_read_row : List Str := ["text", "word"]
abbrev N_read_table : List Str := ["text", "rows", "row", "piece"]
abbrev N_read_parts : List Str := ["text", "parts", "piece", "halves", "often"]
abbrev N__law_cell : List Str := ["_law_script", "_law_k"]
abbrev N__law_mixed : List Str := ["_law_cell_here", "_law_k", "_law_prime", "_law_far"]
abbrev N__law_draws : List Str := ["_law_cell_here", "_law_widths", "_law_prime", "_law_left", "_law_found", "_law_k"]
abbrev N__law_whole : List Str := ["_law_found"]
abbrev N__law_row : List Str := ["_law_found", "_law_many", "_law_place"]
abbrev N__law_is_table : List Str := ["_law_found", "_law_many", "_law_row_here"]
abbrev N__law_places : List Str := ["_law_cell_here", "_law_many", "_law_prime", "_law_found", "_law_row_here", "_law_k", "_law_part", "_law_far", "_law_low", "_law_place", "_law_j"]
abbrev N__law_square_table : List Str := ["_law_cell_here", "_law_many", "_law_prime", "_law_found", "_law_k"]
abbrev N__law_few_parts : List Str := ["_law_script", "_law_k", "_law_prime", "_law_deep", "_law_found", "_law_j", "_law_far"]
abbrev N__law_row_text : List Str := ["_law_row_here", "_law_place"]
abbrev N__law_table_text : List Str := ["_law_table", "_law_row_here"]
abbrev N__law_parts_text : List Str := ["_law_parts", "_law_pair"]
abbrev N__law_is_parts : List Str := ["_law_found", "_law_due", "_law_pair"]
abbrev N__law_wide_table : List Str := ["_law_cell_here", "_law_rows", "_law_many", "_law_prime", "_law_found", "_law_k"]
abbrev N_law : List Str := ["_law_script", "_law_deep", "_law_many", "_law_row_here", "_law_text", "_law_table", "_law_parts", "_law_handed", "_law_told", "_law_one", "_law_two", "_law_pairs"]
def c_FIGURES : Str := "0123456789"
def c_MOST : Int := 60
/-! ### mirrors -/
noncomputable def m_shown_row (row1 : (List Int)) : M Str :=
  (M.bind (mapC (fun place2 => (pstr place2)) row1) fun u3 => (pjoin " " u3))
noncomputable def m_shown_table (table1 : (List (List Int))) : M Str :=
  (M.bind (mapC (fun row2 => (m_shown_row row2)) table1) fun u3 => (pjoin " / " u3))
noncomputable def m_shown_parts (parts1 : (List ((List (List Int)) × Int))) : M Str :=
  (M.bind (ok (decide ((List.length parts1 : Int) = 0))) fun z2 => if z2 = true then (ok ("one" : Str)) else (M.bind (mapC (fun x3 => (M.bind (M.bind (m_shown_table x3.1) fun u4 => (pcatS u4 (" ^ " : Str))) fun u5 => M.bind (pstr x3.2) fun u6 => (pcatS u5 u6))) parts1) fun u7 => (pjoin " * " u7)))
noncomputable def m_is_number (word1 : Str) : M Bool :=
  (M.bind (ok word1) fun figures2 => (M.bind (M.bind (M.bind (cutT word1 none (some 1)) fun u3 => ok (decide (u3 = ("-" : Str)))) fun z4 => if z4 = true then (M.bind (cutT word1 (some 1) none) fun figures5 => ok (figures5)) else ok (figures2)) fun figures6 => (M.bind (M.bind (ok (decide (figures6 = ("" : Str)))) fun z8 => if z8 = true then ok true else (M.bind (plenS figures6) fun u7 => ok (decide (c_MOST < u7)))) fun z9 => if z9 = true then (ok false) else (sq (ρ := Bool) (M.bind (ok (sgns figures6)) fun xs => loopF (fun (s10 : Unit) sign11 => (M.bind (ok (!inS sign11 c_FIGURES)) fun z12 => if z12 = true then (M.bind (ok false) fun a13 => ok (Fl.rt a13)) else ok (Fl.nx ()))) () xs) (fun s14 => (M.bind (ok (decide (word1 = ("0" : Str)))) fun z16 => if z16 = true then ok true else (M.bind (pgetS figures6 0) fun u15 => ok ((!decide (u15 = ("0" : Str))))))) (fun a => a)))))
noncomputable def m_read_number (word1 : Str) : M Int :=
  (M.bind (M.bind (m_is_number word1) fun u2 => ok (!u2)) fun z3 => if z3 = true then (exc ⟨"NoText", []⟩) else (pintS word1))
noncomputable def m_read_row (text1 : Str) : M (List Int) :=
  (M.bind (psplit text1 (" " : Str)) fun xs => mapC (fun word2 => (m_read_number word2)) xs)
noncomputable def m_read_table (text1 : Str) : M (List (List Int)) :=
  (M.bind (M.bind (psplit text1 (" / " : Str)) fun xs => mapC (fun piece3 => (m_read_row piece3)) xs) fun rows2 => (M.bind (M.bind (ok rows2) fun xs => loopM (fun (s4 : Unit) row5 => (M.bind (ok ((!decide ((List.length row5 : Int) = (List.length rows2 : Int))))) fun z6 => if z6 = true then (exc ⟨"NoText", []⟩) else ok ())) () xs) fun s7 => (ok rows2)))
noncomputable def m_read_parts (text1 : Str) : M (List ((List (List Int)) × Int)) :=
  (M.bind (ok (decide (text1 = ("one" : Str)))) fun z2 => if z2 = true then (ok ([] : List ((List (List Int)) × Int))) else (M.bind (ok ([] : List ((List (List Int)) × Int))) fun parts3 => (M.bind (M.bind (psplit text1 (" * " : Str)) fun xs => loopM (fun (parts4 : (List ((List (List Int)) × Int))) piece5 => (M.bind (psplit piece5 (" ^ " : Str)) fun halves6 => (M.bind (M.bind (ok ((!decide ((List.length halves6 : Int) = 2)))) fun z7 => if z7 = true then (exc ⟨"NoText", []⟩) else ok ()) fun s8 => (M.bind (M.bind (pget halves6 1) fun u10 => (m_read_number u10)) fun often9 => (M.bind (M.bind (ok (decide (often9 < 1))) fun z11 => if z11 = true then (exc ⟨"NoText", []⟩) else ok ()) fun s12 => (M.bind (M.bind (M.bind (M.bind (pget halves6 0) fun u13 => (m_read_table u13)) fun u14 => ok (u14, often9)) fun u15 => (papp parts4 u15)) fun parts16 => ok (parts16))))))) (parts3) xs) fun parts17 => ok parts17)))
noncomputable def m__law_cell (script1 : (List Int)) (k2 : Int) : M Int :=
  (M.bind (ok (decide ((List.length script1 : Int) = 0))) fun z3 => if z3 = true then (ok (7919 * (k2 + 1))) else (M.bind (ok (decide (k2 < (List.length script1 : Int)))) fun z4 => if z4 = true then (pget script1 k2) else (M.bind (M.bind (pmod k2 (List.length script1 : Int)) fun u5 => (pget script1 u5)) fun u6 => ok (u6 + (104729 * k2)))))
noncomputable def m__law_mixed (cell_here1 : Int) (k2 : Int) (prime3 : Int) : M Int :=
  (M.bind (M.bind (M.bind (M.bind (M.bind (M.bind (pmul (7 * k2) k2) fun u5 => ok (cell_here1 + u5)) fun u6 => ok (u6 + (13 * k2))) fun u7 => ok (u7 + 5)) fun u8 => ok (u8 * 48271)) fun u9 => ok (u9 % 2147483647)) fun far4 => (M.bind (M.bind (pmul far4 far4) fun u11 => ok (u11 % 2147483629)) fun far10 => (pmod (far10 * 39373) prime3)))
noncomputable def m__law_draws (cell_here1 : Int) (widths2 : (List Int)) (prime3 : Int) : M (List Int) :=
  (M.bind (ok 0) fun left4 => (M.bind (M.bind (ok (decide (1000000000000000000 ≤ cell_here1))) fun z5 => if z5 = true then (M.bind (ok (cell_here1 - 1000000000000000000)) fun left6 => ok (left6)) else ok (left4)) fun left7 => (M.bind (ok ([] : List Int)) fun found8 => (M.bind (M.bind (prangeI (List.length widths2 : Int)) fun xs => loopM (fun (s9 : Int × (List Int)) k10 => (M.bind (ok (decide (1 < s9.1))) fun z11 => if z11 = true then (M.bind (M.bind (M.bind (pget widths2 k10) fun u12 => (pmod s9.1 u12)) fun u13 => (papp s9.2 u13)) fun found14 => (M.bind (M.bind (pget widths2 k10) fun u16 => (pdiv s9.1 u16)) fun left15 => ok (left15, found14))) else (M.bind (M.bind (M.bind (m__law_mixed cell_here1 k10 prime3) fun u17 => M.bind (pget widths2 k10) fun u18 => (pmod u17 u18)) fun u19 => (papp s9.2 u19)) fun found20 => ok (s9.1, found20)))) (left7, found8) xs) fun s21 => ok s21.2))))
noncomputable def m__law_whole (found1 : Int) : M Bool :=
  (M.bind (ok true) fun z2 => if z2 = true then (ok (!false)) else ok false)
noncomputable def m__law_row (found1 : (List Int)) (many2 : Int) : M Bool :=
  (M.bind (M.bind (ok (!true)) fun z3 => if z3 = true then ok true else (ok ((!decide ((List.length found1 : Int) = many2))))) fun z4 => if z4 = true then (ok false) else (M.bind (mapC (fun place5 => (m__law_whole place5)) found1) fun u6 => ok (List.all u6 id)))
noncomputable def m__law_is_table (found1 : (List (List Int))) (many2 : Int) : M Bool :=
  (M.bind (M.bind (ok (!true)) fun z3 => if z3 = true then ok true else (ok ((!decide ((List.length found1 : Int) = many2))))) fun z4 => if z4 = true then (ok false) else (M.bind (mapC (fun row_here5 => (m__law_row row_here5 many2)) found1) fun u6 => ok (List.all u6 id)))
noncomputable def m__law_places (cell_here1 : Int) (many2 : Int) (prime3 : Int) : M (List Int) :=
  (M.bind (M.bind (M.bind (M.bind (prep [100000000] 8) fun u5 => (pcat [5, 41, 60, 3] u5)) fun u6 => (prep u6 many2)) fun u7 => (m__law_draws cell_here1 u7 prime3)) fun found4 => (M.bind (ok ([] : List Int)) fun row_here8 => (M.bind (M.bind (prangeI many2) fun xs => loopM (fun (row_here9 : (List Int)) k10 => (M.bind (ok (cutL found4 (some (12 * k10)) (some ((12 * k10) + 12)))) fun part11 => (M.bind (ok 0) fun far12 => (M.bind (M.bind (ok (cutL part11 (some 4) none)) fun xs => loopM (fun (far13 : Int) low14 => (M.bind (ok ((far13 * 100000000) + low14)) fun far15 => ok (far15))) (far12) xs) fun far16 => (M.bind (M.bind (pmod far16 (2000000000000000000000000000000000000000000000000000000000000 - 1)) fun u18 => ok (u18 - (1000000000000000000000000000000000000000000000000000000000000 - 1))) fun place17 => (M.bind (M.bind (M.bind (pget part11 0) fun u19 => ok (decide (u19 < 2))) fun z20 => if z20 = true then (M.bind (M.bind (pget part11 1) fun u22 => ok (u22 - 20)) fun place21 => ok (place21)) else ok (place17)) fun place23 => (M.bind (M.bind (M.bind (pget part11 0) fun u24 => ok (decide (2 < u24))) fun z25 => if z25 = true then (M.bind (ok 1) fun place26 => (M.bind (M.bind (M.bind (pget part11 2) fun u27 => (prangeI u27)) fun xs => loopM (fun (place28 : Int) j29 => (M.bind (ok (place28 * 10)) fun place30 => ok (place30))) (place26) xs) fun place31 => (M.bind (M.bind (M.bind (pget part11 3) fun u33 => ok (place31 + u33)) fun u34 => ok (u34 - 1)) fun place32 => ok (place32)))) else ok (place23)) fun place35 => (M.bind (M.bind (M.bind (pget part11 0) fun u36 => ok (decide (u36 = 4))) fun z37 => if z37 = true then (M.bind (ok (-place35)) fun place38 => ok (place38)) else ok (place35)) fun place39 => (M.bind (papp row_here9 place39) fun row_here40 => ok (row_here40)))))))))) (row_here8) xs) fun row_here41 => (ok row_here41))))
noncomputable def m__law_square_table (cell_here1 : Int) (many2 : Int) (prime3 : Int) : M (List (List Int)) :=
  (M.bind (M.bind (pmul many2 many2) fun u5 => (m__law_places cell_here1 u5 prime3)) fun found4 => (M.bind (prangeI many2) fun xs => mapC (fun k6 => (M.bind (pmul many2 k6) fun u8 => M.bind (M.bind (pmul many2 k6) fun u7 => ok (u7 + many2)) fun u9 => ok (cutL found4 (some u8) (some u9)))) xs))
noncomputable def m__law_few_parts (script1 : (List Int)) (k2 : Int) (prime3 : Int) : M (List ((List (List Int)) × Int)) :=
  (M.bind (M.bind (m__law_cell script1 k2) fun u5 => (m__law_draws u5 [5, 4, 4, 4, 4] prime3)) fun deep4 => (M.bind (ok ([] : List ((List (List Int)) × Int))) fun found6 => (M.bind (M.bind (M.bind (pget deep4 0) fun u7 => (prangeI u7)) fun xs => loopM (fun (found8 : (List ((List (List Int)) × Int))) j9 => (M.bind (M.bind (m__law_cell script1 ((k2 + 5) + j9)) fun u11 => (m__law_places u11 1 999999739)) fun far10 => (M.bind (M.bind (M.bind (M.bind (m__law_cell script1 ((k2 + 1) + j9)) fun u13 => M.bind (M.bind (pget deep4 (1 + j9)) fun u12 => ok (u12 + 1)) fun u14 => (m__law_square_table u13 u14 prime3)) fun u17 => M.bind (M.bind (M.bind (pget far10 0) fun u15 => ok (Int.natAbs u15 : Int)) fun u16 => ok (max 1 u16)) fun u18 => ok (u17, u18)) fun u19 => (papp found8 u19)) fun found20 => ok (found20)))) (found6) xs) fun found21 => ok found21)))
noncomputable def m__law_row_text (row_here1 : (List Int)) : M Str :=
  (M.bind (mapC (fun place2 => (pstr place2)) row_here1) fun u3 => (pjoin " " u3))
noncomputable def m__law_table_text (table1 : (List (List Int))) : M Str :=
  (M.bind (mapC (fun row_here2 => (m__law_row_text row_here2)) table1) fun u3 => (pjoin " / " u3))
noncomputable def m__law_parts_text (parts1 : (List ((List (List Int)) × Int))) : M Str :=
  (M.bind (ok (decide ((List.length parts1 : Int) = 0))) fun z2 => if z2 = true then (ok ("one" : Str)) else (M.bind (mapC (fun pair3 => (M.bind (M.bind (m__law_table_text pair3.1) fun u4 => (pcatS u4 (" ^ " : Str))) fun u5 => M.bind (pstr pair3.2) fun u6 => (pcatS u5 u6))) parts1) fun u7 => (pjoin " * " u7)))
noncomputable def m__law_is_parts (found1 : (List ((List (List Int)) × Int))) (due2 : (List ((List (List Int)) × Int))) : M Bool :=
  (M.bind (M.bind (ok (!true)) fun z3 => if z3 = true then ok true else (ok ((!decide ((List.length found1 : Int) = (List.length due2 : Int)))))) fun z4 => if z4 = true then (ok false) else (sq (ρ := Bool) (M.bind (ok found1) fun xs => loopF (fun (s5 : Unit) pair6 => (M.bind (M.bind (ok (!true)) fun z9 => if z9 = true then ok true else (M.bind (ok ((!decide (2 = 2)))) fun z8 => if z8 = true then ok true else (M.bind (m__law_whole pair6.2) fun u7 => ok (!u7)))) fun z10 => if z10 = true then M.bind (ok false) fun a15 => ok (Fl.rt a15) else (M.bind (M.bind (ok (!true)) fun z12 => if z12 = true then ok true else (M.bind (m__law_is_table pair6.1 (List.length pair6.1 : Int)) fun u11 => ok (!u11))) fun z13 => if z13 = true then (M.bind (ok false) fun a14 => ok (Fl.rt a14)) else ok (Fl.nx ())))) () xs) (fun s16 => (ok (decide (found1 = due2)))) (fun a => a)))
noncomputable def m__law_wide_table (cell_here1 : Int) (rows2 : Int) (many3 : Int) (prime4 : Int) : M (List (List Int)) :=
  (M.bind (M.bind (pmul rows2 many3) fun u6 => (m__law_places cell_here1 u6 prime4)) fun found5 => (M.bind (prangeI rows2) fun xs => mapC (fun k7 => (M.bind (pmul many3 k7) fun u9 => M.bind (M.bind (pmul many3 k7) fun u8 => ok (u8 + many3)) fun u10 => ok (cutL found5 (some u9) (some u10)))) xs))
noncomputable def m_law (script1 : (List Int)) : M Bool :=
  (M.bind (M.bind (m__law_cell script1 0) fun u3 => (m__law_draws u3 [8, 8, 30] 999999937)) fun deep2 => (M.bind (M.bind (pget deep2 0) fun u5 => ok (1 + u5)) fun many4 => (M.bind (M.bind (M.bind (pget deep2 1) fun u6 => ok (decide (u6 = 7))) fun z7 => if z7 = true then (M.bind (M.bind (pget deep2 2) fun u9 => ok (1 + u9)) fun many8 => ok (many8)) else ok (many4)) fun many10 => (M.bind (M.bind (m__law_cell script1 1) fun u12 => (m__law_places u12 many10 999999893)) fun row_here11 => (M.bind (m__law_row_text row_here11) fun text13 => (M.bind (M.bind (M.bind (m_shown_row row_here11) fun u14 => ok ((!decide (u14 = text13)))) fun z19 => if z19 = true then ok true else (M.bind (M.bind (M.bind (m_read_row text13) fun u15 => (m__law_row u15 many10)) fun u16 => ok (!u16)) fun z18 => if z18 = true then ok true else (M.bind (m_read_row text13) fun u17 => ok ((!decide (u17 = row_here11)))))) fun z20 => if z20 = true then (ok false) else (M.bind (M.bind (m__law_cell script1 2) fun u22 => (m__law_draws u22 [4, 8, 5] 999999883)) fun deep21 => (M.bind (M.bind (pget deep21 0) fun u24 => ok (1 + u24)) fun many23 => (M.bind (M.bind (M.bind (pget deep21 1) fun u25 => ok (decide (u25 = 7))) fun z26 => if z26 = true then (M.bind (M.bind (pget deep21 2) fun u28 => ok (5 + u28)) fun many27 => ok (many27)) else ok (many23)) fun many29 => (M.bind (M.bind (m__law_cell script1 3) fun u31 => (m__law_square_table u31 many29 999999797)) fun table30 => (M.bind (m__law_table_text table30) fun text32 => (M.bind (M.bind (M.bind (m_shown_table table30) fun u33 => ok ((!decide (u33 = text32)))) fun z38 => if z38 = true then ok true else (M.bind (M.bind (M.bind (m_read_table text32) fun u34 => (m__law_is_table u34 many29)) fun u35 => ok (!u35)) fun z37 => if z37 = true then ok true else (M.bind (m_read_table text32) fun u36 => ok ((!decide (u36 = table30)))))) fun z39 => if z39 = true then (ok false) else (M.bind (m__law_few_parts script1 4 999999761) fun parts40 => (M.bind (m__law_parts_text parts40) fun text41 => (M.bind (ok parts40) fun handed42 => (M.bind (M.bind (M.bind (m_shown_parts handed42) fun u43 => ok ((!decide (u43 = text41)))) fun z44 => if z44 = true then ok true else (ok ((!decide (handed42 = parts40))))) fun z45 => if z45 = true then (ok false) else (M.bind (m_read_parts text41) fun told46 => (M.bind (M.bind (m__law_is_parts told46 parts40) fun u47 => ok (!u47)) fun z48 => if z48 = true then (ok false) else (M.bind (papp (List.map (fun _ => ()) told46) ()) fun told49 => (M.bind (M.bind (M.bind (m_read_parts text41) fun u50 => (m__law_is_parts u50 parts40)) fun u51 => ok (!u51)) fun z52 => if z52 = true then (ok false) else (M.bind (M.bind (m__law_cell script1 14) fun u54 => (m__law_draws u54 [4, 6, 4, 6] 999999757)) fun deep53 => (M.bind (M.bind (m__law_cell script1 15) fun u58 => M.bind (M.bind (pget deep53 0) fun u56 => ok (1 + u56)) fun u59 => M.bind (M.bind (pget deep53 1) fun u57 => ok (1 + u57)) fun u60 => (m__law_wide_table u58 u59 u60 999999751)) fun one55 => (M.bind (M.bind (m__law_cell script1 16) fun u64 => M.bind (M.bind (pget deep53 2) fun u62 => ok (1 + u62)) fun u65 => M.bind (M.bind (pget deep53 3) fun u63 => ok (1 + u63)) fun u66 => (m__law_wide_table u64 u65 u66 999999739)) fun two61 => (M.bind (M.bind (M.bind (M.bind (pget deep53 1) fun u68 => ok (1 + u68)) fun u69 => ok (one55, u69)) fun u70 => psz [u70, (two61, 100000000000000000000)]) fun pairs67 => (M.bind (M.bind (M.bind (m_shown_table one55) fun u71 => M.bind (m__law_table_text one55) fun u72 => ok ((!decide (u71 = u72)))) fun z75 => if z75 = true then ok true else (M.bind (m_shown_table two61) fun u73 => M.bind (m__law_table_text two61) fun u74 => ok ((!decide (u73 = u74))))) fun z76 => if z76 = true then (ok false) else (M.bind (m_shown_parts pairs67) fun u77 => M.bind (m__law_parts_text pairs67) fun u78 => ok (decide (u77 = u78))))))))))))))))))))))))))))
/-! ### walks -/
structure Facts (K : Fr) (mg : Str → Option Value) : Prop where
  d_shown_row : DefAt K mg "shown_row" s_shown_row
  d_shown_table : DefAt K mg "shown_table" s_shown_table
  d_shown_parts : DefAt K mg "shown_parts" s_shown_parts
  d_is_number : DefAt K mg "is_number" s_is_number
  d_read_number : DefAt K mg "read_number" s_read_number
  d_read_row : DefAt K mg "read_row" s_read_row
  d_read_table : DefAt K mg "read_table" s_read_table
  d_read_parts : DefAt K mg "read_parts" s_read_parts
  d__law_cell : DefAt K mg "_law_cell" s__law_cell
  d__law_mixed : DefAt K mg "_law_mixed" s__law_mixed
  d__law_draws : DefAt K mg "_law_draws" s__law_draws
  d__law_whole : DefAt K mg "_law_whole" s__law_whole
  d__law_row : DefAt K mg "_law_row" s__law_row
  d__law_is_table : DefAt K mg "_law_is_table" s__law_is_table
  d__law_places : DefAt K mg "_law_places" s__law_places
  d__law_square_table : DefAt K mg "_law_square_table" s__law_square_table
  d__law_few_parts : DefAt K mg "_law_few_parts" s__law_few_parts
  d__law_row_text : DefAt K mg "_law_row_text" s__law_row_text
  d__law_table_text : DefAt K mg "_law_table_text" s__law_table_text
  d__law_parts_text : DefAt K mg "_law_parts_text" s__law_parts_text
  d__law_is_parts : DefAt K mg "_law_is_parts" s__law_is_parts
  d__law_wide_table : DefAt K mg "_law_wide_table" s__law_wide_table
  d_law : DefAt K mg "law" s_law
  x_NoText : XPl K mg "NoText"
  n_abs : mg "abs" = none
  n_all : mg "all" = none
  n_bool : mg "bool" = none
  n_int : mg "int" = none
  n_isinstance : mg "isinstance" = none
  n_len : mg "len" = none
  n_list : mg "list" = none
  n_max : mg "max" = none
  n_range : mg "range" = none
  n_str : mg "str" = none
  n_tuple : mg "tuple" = none
  g_FIGURES : GlobD K mg "FIGURES" tStr c_FIGURES
  g_MOST : GlobD K mg "MOST" tInt c_MOST
section
variable {P : Program} {w : World} {K : Fr} {mg : Str → Option Value} {base : Heap}
theorem sc_shown_row : FnScope N_shown_row ["row"] (defScope s_shown_row) := ⟨rfl, rfl, rfl, by decide +kernel, rfl, by decide +kernel, by decide +kernel⟩
theorem fx_shown_row (T : Facts K mg) : Fx P w K mg base "shown_row" 1 (.cons (tRow tInt) .nil) (dat tStr) (fun t => m_shown_row t.1) :=
  fx_ret N_shown_row ["row"] T.d_shown_row sc_shown_row rfl (fun _ _ _ _ _ _ us hl => match us, hl with | [_], _ => rfl) fun cdv f A outer s H E t => (by show JB _ _ _ _ _ _ (m_shown_row t.1); unfold m_shown_row; exact (J_last (S_retT (E_eq (E_eq (E_join (E_borF (E_comp (C_map (own := [("place", 1)]) (hok := (by first | (show blkC N_shown_row (defScope s_shown_row) _ _ = true; decide +kernel) | kernel_rfl)) (I_eq (I_tup (E_var 0)) (by first | with_reducible rfl | (simp only [bind_okS]; done) | (simp only [bind_okS, bind_ret]; done) | (simp only [bind_okS, bind_ret, bind_bind]; done) | exact congrArg _ (funext fun _ => congrArg _ (funext fun _ => congrArg ok (decide_eq_decide.mpr Iff.rfl))))) (fun _ _ _ _ _ => (G_name 1)) (fun _ _ _ _ _ place2 => (E_eq (E_strI T.n_str (E_var 1)) (by first | with_reducible rfl | (simp only [bind_okS]; done) | (simp only [bind_okS, bind_ret]; done) | (simp only [bind_okS, bind_ret, bind_bind]; done) | exact congrArg _ (funext fun _ => congrArg _ (funext fun _ => congrArg ok (decide_eq_decide.mpr Iff.rfl)))))))))) (by first | with_reducible rfl | (simp only [bind_okS]; done) | (simp only [bind_okS, bind_ret]; done) | (simp only [bind_okS, bind_ret, bind_bind]; done) | exact congrArg _ (funext fun _ => congrArg _ (funext fun _ => congrArg ok (decide_eq_decide.mpr Iff.rfl))))) (by first | with_reducible rfl | (simp only [bind_okS]; done) | (simp only [bind_okS, bind_ret]; done) | (simp only [bind_okS, bind_ret, bind_bind]; done) | exact congrArg _ (funext fun _ => congrArg _ (funext fun _ => congrArg ok (decide_eq_decide.mpr Iff.rfl))))))))
theorem sc_shown_table : FnScope N_shown_table ["table"] (defScope s_shown_table) := ⟨rfl, rfl, rfl, by decide +kernel, rfl, by decide +kernel, by decide +kernel⟩
theorem fx_shown_table (T : Facts K mg) : Fx P w K mg base "shown_table" 2 (.cons (tRow (tRow tInt)) .nil) (dat tStr) (fun t => m_shown_table t.1) :=
  fx_ret N_shown_table ["table"] T.d_shown_table sc_shown_table rfl (fun _ _ _ _ _ _ us hl => match us, hl with | [_], _ => rfl) fun cdv f A outer s H E t => (by show JB _ _ _ _ _ _ (m_shown_table t.1); unfold m_shown_table; exact (J_last (S_retT (E_eq (E_eq (E_join (E_borF (E_comp (C_map (own := [("row", 1)]) (hok := (by first | (show blkC N_shown_table (defScope s_shown_table) _ _ = true; decide +kernel) | kernel_rfl)) (I_eq (I_tup (E_var 0)) (by first | with_reducible rfl | (simp only [bind_okS]; done) | (simp only [bind_okS, bind_ret]; done) | (simp only [bind_okS, bind_ret, bind_bind]; done) | exact congrArg _ (funext fun _ => congrArg _ (funext fun _ => congrArg ok (decide_eq_decide.mpr Iff.rfl))))) (fun _ _ _ _ _ => (G_name 1)) (fun _ _ _ _ _ row2 => (E_eq (E_call (fx_shown_row T) (Nat.le_of_ble_eq_true rfl) (A_cons (E_var 1) fun _ => A_nil) [] rfl) (by first | with_reducible rfl | (simp only [bind_okS]; done) | (simp only [bind_okS, bind_ret]; done) | (simp only [bind_okS, bind_ret, bind_bind]; done) | exact congrArg _ (funext fun _ => congrArg _ (funext fun _ => congrArg ok (decide_eq_decide.mpr Iff.rfl)))))))))) (by first | with_reducible rfl | (simp only [bind_okS]; done) | (simp only [bind_okS, bind_ret]; done) | (simp only [bind_okS, bind_ret, bind_bind]; done) | exact congrArg _ (funext fun _ => congrArg _ (funext fun _ => congrArg ok (decide_eq_decide.mpr Iff.rfl))))) (by first | with_reducible rfl | (simp only [bind_okS]; done) | (simp only [bind_okS, bind_ret]; done) | (simp only [bind_okS, bind_ret, bind_bind]; done) | exact congrArg _ (funext fun _ => congrArg _ (funext fun _ => congrArg ok (decide_eq_decide.mpr Iff.rfl))))))))
theorem sc_shown_parts : FnScope N_shown_parts ["parts"] (defScope s_shown_parts) := ⟨rfl, rfl, rfl, by decide +kernel, rfl, by decide +kernel, by decide +kernel⟩
theorem fx_shown_parts (T : Facts K mg) : Fx P w K mg base "shown_parts" 3 (.cons (tLst (tRec2 (tRow (tRow tInt)) tInt)) .nil) (dat tStr) (fun t => m_shown_parts t.1) :=
  fx_ret N_shown_parts ["parts"] T.d_shown_parts sc_shown_parts rfl (fun _ _ _ _ _ _ us hl => match us, hl with | [_], _ => rfl) fun cdv f A outer s H E t => (J_ifrT (B_eq (B_cmp op_eq (cp_eq _) (nomark _) (E_lenL T.n_len (E_bor (E_var 0))) E_int) (by first | with_reducible rfl | (simp only [bind_okS]; done) | (simp only [bind_okS, bind_ret]; done) | (simp only [bind_okS, bind_ret, bind_bind]; done) | exact congrArg _ (funext fun _ => congrArg _ (funext fun _ => congrArg ok (decide_eq_decide.mpr Iff.rfl))))) (J_last (S_retT (E_eq E_str (by first | with_reducible rfl | (simp only [bind_okS]; done) | (simp only [bind_okS, bind_ret]; done) | (simp only [bind_okS, bind_ret, bind_bind]; done) | exact congrArg _ (funext fun _ => congrArg _ (funext fun _ => congrArg ok (decide_eq_decide.mpr Iff.rfl))))))) (J_last (S_retT (E_eq (E_eq (E_join (E_borF (E_comp (C_map (own := [("table", 1), ("often", 2)]) (hok := (by first | (show blkC N_shown_parts (defScope s_shown_parts) _ _ = true; decide +kernel) | kernel_rfl)) (I_eq (I_list (E_var 0)) (by first | with_reducible rfl | (simp only [bind_okS]; done) | (simp only [bind_okS, bind_ret]; done) | (simp only [bind_okS, bind_ret, bind_bind]; done) | exact congrArg _ (funext fun _ => congrArg _ (funext fun _ => congrArg ok (decide_eq_decide.mpr Iff.rfl))))) (fun _ _ _ _ _ => (G_rec2K K (G_name 1) (G_name 2))) (fun _ _ _ _ _ x3 => (E_eq (E_catS (E_catS (E_call (fx_shown_table T) (Nat.le_of_ble_eq_true rfl) (A_cons (E_var 1) fun _ => A_nil) [] rfl) E_str) (E_strI T.n_str (E_var 2))) (by first | with_reducible rfl | (simp only [bind_okS]; done) | (simp only [bind_okS, bind_ret]; done) | (simp only [bind_okS, bind_ret, bind_bind]; done) | exact congrArg _ (funext fun _ => congrArg _ (funext fun _ => congrArg ok (decide_eq_decide.mpr Iff.rfl)))))))))) (by first | with_reducible rfl | (simp only [bind_okS]; done) | (simp only [bind_okS, bind_ret]; done) | (simp only [bind_okS, bind_ret, bind_bind]; done) | exact congrArg _ (funext fun _ => congrArg _ (funext fun _ => congrArg ok (decide_eq_decide.mpr Iff.rfl))))) (by first | with_reducible rfl | (simp only [bind_okS]; done) | (simp only [bind_okS, bind_ret]; done) | (simp only [bind_okS, bind_ret, bind_bind]; done) | exact congrArg _ (funext fun _ => congrArg _ (funext fun _ => congrArg ok (decide_eq_decide.mpr Iff.rfl))))))))
theorem sc_is_number : FnScope N_is_number ["word"] (defScope s_is_number) := ⟨rfl, rfl, rfl, by decide +kernel, rfl, by decide +kernel, by decide +kernel⟩
theorem fx_is_number (T : Facts K mg) : Fx P w K mg base "is_number" 1 (.cons tStr .nil) (dat tBool) (fun t => m_is_number t.1) :=
  fx_ret N_is_number ["word"] T.d_is_number sc_is_number rfl (fun _ _ _ _ _ _ us hl => match us, hl with | [_], _ => rfl) fun cdv f A outer s H E t => (J_cons (S_set 1 (E_eq (E_var 0) (by first | with_reducible rfl | (simp only [bind_okS]; done) | (simp only [bind_okS, bind_ret]; done) | (simp only [bind_okS, bind_ret, bind_bind]; done) | exact congrArg _ (funext fun _ => congrArg _ (funext fun _ => congrArg ok (decide_eq_decide.mpr Iff.rfl)))))) fun figures2 => (J_cons (Γ1 := fun figures6 : Str => [eD 0 tStr t.1, eD 1 tStr figures6]) (S_if (B_eq (B_eqP eStr (repD_dat eStr) (repD_dat eStr) (by decide) (E_eq (E_slS (E_var 0) O_none (O_some E_int)) (by first | with_reducible rfl | (simp only [bind_okS]; done) | (simp only [bind_okS, bind_ret]; done) | (simp only [bind_okS, bind_ret, bind_bind]; done) | exact congrArg _ (funext fun _ => congrArg _ (funext fun _ => congrArg ok (decide_eq_decide.mpr Iff.rfl))))) E_str) (by first | with_reducible rfl | (simp only [bind_okS]; done) | (simp only [bind_okS, bind_ret]; done) | (simp only [bind_okS, bind_ret, bind_bind]; done) | exact congrArg _ (funext fun _ => congrArg _ (funext fun _ => congrArg ok (decide_eq_decide.mpr Iff.rfl))))) (J_cons (S_set 1 (E_eq (E_eq (E_slS (E_var 0) (O_some E_int) O_none) (by first | with_reducible rfl | (simp only [bind_okS]; done) | (simp only [bind_okS, bind_ret]; done) | (simp only [bind_okS, bind_ret, bind_bind]; done) | exact congrArg _ (funext fun _ => congrArg _ (funext fun _ => congrArg ok (decide_eq_decide.mpr Iff.rfl))))) (by first | with_reducible rfl | (simp only [bind_okS]; done) | (simp only [bind_okS, bind_ret]; done) | (simp only [bind_okS, bind_ret, bind_bind]; done) | exact congrArg _ (funext fun _ => congrArg _ (funext fun _ => congrArg ok (decide_eq_decide.mpr Iff.rfl)))))) fun figures5 => (J_nil [0, 1] (figures5))) (J_nil [0, 1] (figures2))) fun figures6 => (J_ifrT (B_eq (B_w (W_or (B_eqP eStr (repD_dat eStr) (repD_dat eStr) (by decide) (E_var 1) E_str) (W_or1 (B_cmp op_gt (cp_gt _) (nomark _) (E_lenS T.n_len (E_var 1)) (E_glob T.g_MOST))))) (by first | with_reducible rfl | (simp only [bind_okS]; done) | (simp only [bind_okS, bind_ret]; done) | (simp only [bind_okS, bind_ret, bind_bind]; done) | exact congrArg _ (funext fun _ => congrArg _ (funext fun _ => congrArg ok (decide_eq_decide.mpr Iff.rfl))))) (J_last (S_retT (E_eq E_bool (by first | with_reducible rfl | (simp only [bind_okS]; done) | (simp only [bind_okS, bind_ret]; done) | (simp only [bind_okS, bind_ret, bind_bind]; done) | exact congrArg _ (funext fun _ => congrArg _ (funext fun _ => congrArg ok (decide_eq_decide.mpr Iff.rfl))))))) (J_fl (fun a => a) (S_forF (Γl := fun s10 : Unit => [eD 0 tStr t.1, eD 1 tStr figures6]) [0, 1] () (I_eq (I_str (E_var 1)) (by first | with_reducible rfl | (simp only [bind_okS]; done) | (simp only [bind_okS, bind_ret]; done) | (simp only [bind_okS, bind_ret, bind_bind]; done) | exact congrArg _ (funext fun _ => congrArg _ (funext fun _ => congrArg ok (decide_eq_decide.mpr Iff.rfl))))) (G_name 2) (fun s10 sign11 => (J_last (S_if (B_eq (B_notinS (E_var 2) (E_glob T.g_FIGURES)) (by first | with_reducible rfl | (simp only [bind_okS]; done) | (simp only [bind_okS, bind_ret]; done) | (simp only [bind_okS, bind_ret, bind_bind]; done) | exact congrArg _ (funext fun _ => congrArg _ (funext fun _ => congrArg ok (decide_eq_decide.mpr Iff.rfl))))) (J_last (S_ret (fun a => Fl.rt a) (E_eq E_bool (by first | with_reducible rfl | (simp only [bind_okS]; done) | (simp only [bind_okS, bind_ret]; done) | (simp only [bind_okS, bind_ret, bind_bind]; done) | exact congrArg _ (funext fun _ => congrArg _ (funext fun _ => congrArg ok (decide_eq_decide.mpr Iff.rfl))))))) (J_nil [0, 1] (Fl.nx ())))))) fun s14 => (J_last (S_retT (E_eq (E_or (E_eqP eStr (repD_dat eStr) (repD_dat eStr) (by decide) (E_var 0) E_str) (E_one (E_neP eStr (repD_dat eStr) (repD_dat eStr) (by decide) (E_ixS (E_var 1) E_int) E_str))) (by first | with_reducible rfl | (simp only [bind_okS]; done) | (simp only [bind_okS, bind_ret]; done) | (simp only [bind_okS, bind_ret, bind_bind]; done) | exact congrArg _ (funext fun _ => congrArg _ (funext fun _ => congrArg ok (decide_eq_decide.mpr Iff.rfl)))))))))))
theorem sc_read_number : FnScope N_read_number ["word"] (defScope s_read_number) := ⟨rfl, rfl, rfl, by decide +kernel, rfl, by decide +kernel, by decide +kernel⟩
theorem fx_read_number (T : Facts K mg) : Fx P w K mg base "read_number" 2 (.cons tStr .nil) (dat tInt) (fun t => m_read_number t.1) :=
  fx_ret N_read_number ["word"] T.d_read_number sc_read_number rfl (fun _ _ _ _ _ _ us hl => match us, hl with | [_], _ => rfl) fun cdv f A outer s H E t => (J_ifrT (B_eq (B_not (B_val (E_call (fx_is_number T) (Nat.le_of_ble_eq_true rfl) (A_cons (E_var 0) fun _ => A_nil) [] rfl))) (by first | with_reducible rfl | (simp only [bind_okS]; done) | (simp only [bind_okS, bind_ret]; done) | (simp only [bind_okS, bind_ret, bind_bind]; done) | exact congrArg _ (funext fun _ => congrArg _ (funext fun _ => congrArg ok (decide_eq_decide.mpr Iff.rfl))))) (J_last (S_raise T.x_NoText [])) (J_last (S_retT (E_eq (E_intS T.n_int (E_var 0)) (by first | with_reducible rfl | (simp only [bind_okS]; done) | (simp only [bind_okS, bind_ret]; done) | (simp only [bind_okS, bind_ret, bind_bind]; done) | exact congrArg _ (funext fun _ => congrArg _ (funext fun _ => congrArg ok (decide_eq_decide.mpr Iff.rfl))))))))
theorem sc_read_row : FnScope N_read_row ["text"] (defScope s_read_row) := ⟨rfl, rfl, rfl, by decide +kernel, rfl, by decide +kernel, by decide +kernel⟩
theorem fx_read_row (T : Facts K mg) : Fx P w K mg base "read_row" 3 (.cons tStr .nil) (dat (tRow tInt)) (fun t => m_read_row t.1) :=
  fx_ret N_read_row ["text"] T.d_read_row sc_read_row rfl (fun _ _ _ _ _ _ us hl => match us, hl with | [_], _ => rfl) fun cdv f A outer s H E t => (by show JB _ _ _ _ _ _ (m_read_row t.1); unfold m_read_row; exact (J_last (S_retT (E_eq (E_tupleL T.n_tuple (E_borF (E_comp (C_map (own := [("word", 1)]) (hok := (by first | (show blkC N_read_row (defScope s_read_row) _ _ = true; decide +kernel) | kernel_rfl)) (I_eq (I_list (E_frz (E_eq (E_split (E_var 0) E_str) (by first | with_reducible rfl | (simp only [bind_okS]; done) | (simp only [bind_okS, bind_ret]; done) | (simp only [bind_okS, bind_ret, bind_bind]; done) | exact congrArg _ (funext fun _ => congrArg _ (funext fun _ => congrArg ok (decide_eq_decide.mpr Iff.rfl))))))) (by first | with_reducible rfl | (simp only [bind_okS]; done) | (simp only [bind_okS, bind_ret]; done) | (simp only [bind_okS, bind_ret, bind_bind]; done) | exact congrArg _ (funext fun _ => congrArg _ (funext fun _ => congrArg ok (decide_eq_decide.mpr Iff.rfl))))) (fun _ _ _ _ _ => (G_name 1)) (fun _ _ _ _ _ word2 => (E_eq (E_call (fx_read_number T) (Nat.le_of_ble_eq_true rfl) (A_cons (E_var 1) fun _ => A_nil) [] rfl) (by first | with_reducible rfl | (simp only [bind_okS]; done) | (simp only [bind_okS, bind_ret]; done) | (simp only [bind_okS, bind_ret, bind_bind]; done) | exact congrArg _ (funext fun _ => congrArg _ (funext fun _ => congrArg ok (decide_eq_decide.mpr Iff.rfl)))))))))) (by first | with_reducible rfl | (simp only [bind_okS]; done) | (simp only [bind_okS, bind_ret]; done) | (simp only [bind_okS, bind_ret, bind_bind]; done) | exact congrArg _ (funext fun _ => congrArg _ (funext fun _ => congrArg ok (decide_eq_decide.mpr Iff.rfl))))))))
theorem sc_read_table : FnScope N_read_table ["text"] (defScope s_read_table) := ⟨rfl, rfl, rfl, by decide +kernel, rfl, by decide +kernel, by decide +kernel⟩
theorem fx_read_table (T : Facts K mg) : Fx P w K mg base "read_table" 4 (.cons tStr .nil) (dat (tRow (tRow tInt))) (fun t => m_read_table t.1) :=
  fx_ret N_read_table ["text"] T.d_read_table sc_read_table rfl (fun _ _ _ _ _ _ us hl => match us, hl with | [_], _ => rfl) fun cdv f A outer s H E t => (J_cons (S_eq (S_compF 1 (C_map (own := [("piece", 3)]) (hok := (by first | (show blkC N_read_table (defScope s_read_table) _ _ = true; decide +kernel) | kernel_rfl)) (I_eq (I_list (E_frz (E_eq (E_split (E_var 0) E_str) (by first | with_reducible rfl | (simp only [bind_okS]; done) | (simp only [bind_okS, bind_ret]; done) | (simp only [bind_okS, bind_ret, bind_bind]; done) | exact congrArg _ (funext fun _ => congrArg _ (funext fun _ => congrArg ok (decide_eq_decide.mpr Iff.rfl))))))) (by first | with_reducible rfl | (simp only [bind_okS]; done) | (simp only [bind_okS, bind_ret]; done) | (simp only [bind_okS, bind_ret, bind_bind]; done) | exact congrArg _ (funext fun _ => congrArg _ (funext fun _ => congrArg ok (decide_eq_decide.mpr Iff.rfl))))) (fun _ _ _ _ _ => (G_name 3)) (fun _ _ _ _ _ piece3 => (E_eq (E_call (fx_read_row T) (Nat.le_of_ble_eq_true rfl) (A_cons (E_var 3) fun _ => A_nil) [] rfl) (by first | with_reducible rfl | (simp only [bind_okS]; done) | (simp only [bind_okS, bind_ret]; done) | (simp only [bind_okS, bind_ret, bind_bind]; done) | exact congrArg _ (funext fun _ => congrArg _ (funext fun _ => congrArg ok (decide_eq_decide.mpr Iff.rfl)))))))) (by first | with_reducible rfl | (simp only [bind_okS]; done) | (simp only [bind_okS, bind_ret]; done) | (simp only [bind_okS, bind_ret, bind_bind]; done) | exact congrArg _ (funext fun _ => congrArg _ (funext fun _ => congrArg ok (decide_eq_decide.mpr Iff.rfl))))) fun rows2 => (J_cons (S_for (Γl := fun s4 : Unit => [eD 1 (tLst (tRow tInt)) rows2]) [1] () (I_eq (I_list (E_var 1)) (by first | with_reducible rfl | (simp only [bind_okS]; done) | (simp only [bind_okS, bind_ret]; done) | (simp only [bind_okS, bind_ret, bind_bind]; done) | exact congrArg _ (funext fun _ => congrArg _ (funext fun _ => congrArg ok (decide_eq_decide.mpr Iff.rfl))))) (G_name 2) (fun s4 row5 => (J_last (S_if (B_eq (B_cmp op_ne (cp_ne _) (nomark _) (E_lenT T.n_len (E_var 2)) (E_lenL T.n_len (E_bor (E_var 1)))) (by first | with_reducible rfl | (simp only [bind_okS]; done) | (simp only [bind_okS, bind_ret]; done) | (simp only [bind_okS, bind_ret, bind_bind]; done) | exact congrArg _ (funext fun _ => congrArg _ (funext fun _ => congrArg ok (decide_eq_decide.mpr Iff.rfl))))) (J_last (S_raise T.x_NoText [])) (J_nil [1] ()))))) fun s7 => (J_last (S_retT (E_eq (E_tupleL T.n_tuple (E_bor (E_var 1))) (by first | with_reducible rfl | (simp only [bind_okS]; done) | (simp only [bind_okS, bind_ret]; done) | (simp only [bind_okS, bind_ret, bind_bind]; done) | exact congrArg _ (funext fun _ => congrArg _ (funext fun _ => congrArg ok (decide_eq_decide.mpr Iff.rfl)))))))))
theorem sc_read_parts : FnScope N_read_parts ["text"] (defScope s_read_parts) := ⟨rfl, rfl, rfl, by decide +kernel, rfl, by decide +kernel, by decide +kernel⟩
theorem fx_read_parts (T : Facts K mg) : Fx P w K mg base "read_parts" 5 (.cons tStr .nil) (own (tRec2 (tRow (tRow tInt)) tInt)) (fun t => m_read_parts t.1) :=
  fx_ret N_read_parts ["text"] T.d_read_parts sc_read_parts rfl (fun _ _ _ _ _ _ us hl => match us, hl with | [_], _ => rfl) fun cdv f A outer s H E t => (J_ifrT (B_eq (B_eqP eStr (repD_dat eStr) (repD_dat eStr) (by decide) (E_var 0) E_str) (by first | with_reducible rfl | (simp only [bind_okS]; done) | (simp only [bind_okS, bind_ret]; done) | (simp only [bind_okS, bind_ret, bind_bind]; done) | exact congrArg _ (funext fun _ => congrArg _ (funext fun _ => congrArg ok (decide_eq_decide.mpr Iff.rfl))))) (J_last (S_retT (E_eq (E_eq (E_lst I_nil) (psz_w (xs := ([] : List ((List (List Int)) × Int))) rfl)) (by first | with_reducible rfl | (simp only [bind_okS]; done) | (simp only [bind_okS, bind_ret]; done) | (simp only [bind_okS, bind_ret, bind_bind]; done) | exact congrArg _ (funext fun _ => congrArg _ (funext fun _ => congrArg ok (decide_eq_decide.mpr Iff.rfl))))))) (J_cons (S_setO 1 (E_eq (E_eq (E_lst I_nil) (psz_w (xs := ([] : List ((List (List Int)) × Int))) rfl)) (by first | with_reducible rfl | (simp only [bind_okS]; done) | (simp only [bind_okS, bind_ret]; done) | (simp only [bind_okS, bind_ret, bind_bind]; done) | exact congrArg _ (funext fun _ => congrArg _ (funext fun _ => congrArg ok (decide_eq_decide.mpr Iff.rfl)))))) fun parts3 => (J_cons (S_for (Γl := fun parts4 : (List ((List (List Int)) × Int)) => [eO 1 (tRec2 (tRow (tRow tInt)) tInt) parts4]) [1] (parts3) (I_eq (I_list (E_frz (E_eq (E_split (E_var 0) E_str) (by first | with_reducible rfl | (simp only [bind_okS]; done) | (simp only [bind_okS, bind_ret]; done) | (simp only [bind_okS, bind_ret, bind_bind]; done) | exact congrArg _ (funext fun _ => congrArg _ (funext fun _ => congrArg ok (decide_eq_decide.mpr Iff.rfl))))))) (by first | with_reducible rfl | (simp only [bind_okS]; done) | (simp only [bind_okS, bind_ret]; done) | (simp only [bind_okS, bind_ret, bind_bind]; done) | exact congrArg _ (funext fun _ => congrArg _ (funext fun _ => congrArg ok (decide_eq_decide.mpr Iff.rfl))))) (G_name 2) (fun parts4 piece5 => (J_cons (S_set 3 (E_eq (E_frz (E_eq (E_split (E_var 2) E_str) (by first | with_reducible rfl | (simp only [bind_okS]; done) | (simp only [bind_okS, bind_ret]; done) | (simp only [bind_okS, bind_ret, bind_bind]; done) | exact congrArg _ (funext fun _ => congrArg _ (funext fun _ => congrArg ok (decide_eq_decide.mpr Iff.rfl)))))) (by first | with_reducible rfl | (simp only [bind_okS]; done) | (simp only [bind_okS, bind_ret]; done) | (simp only [bind_okS, bind_ret, bind_bind]; done) | exact congrArg _ (funext fun _ => congrArg _ (funext fun _ => congrArg ok (decide_eq_decide.mpr Iff.rfl)))))) fun halves6 => (J_cons (Γ1 := fun s8 : Unit => [eO 1 (tRec2 (tRow (tRow tInt)) tInt) parts4, eD 3 (tLst tStr) halves6]) (S_if (B_eq (B_cmp op_ne (cp_ne _) (nomark _) (E_lenL T.n_len (E_bor (E_var 3))) E_int) (by first | with_reducible rfl | (simp only [bind_okS]; done) | (simp only [bind_okS, bind_ret]; done) | (simp only [bind_okS, bind_ret, bind_bind]; done) | exact congrArg _ (funext fun _ => congrArg _ (funext fun _ => congrArg ok (decide_eq_decide.mpr Iff.rfl))))) (J_last (S_raise T.x_NoText [])) (J_nil [1, 3] ())) fun s8 => (J_cons (S_set 4 (E_eq (E_call (fx_read_number T) (Nat.le_of_ble_eq_true rfl) (A_cons (E_ixL (E_bor (E_var 3)) E_int) fun _ => A_nil) [] rfl) (by first | with_reducible rfl | (simp only [bind_okS]; done) | (simp only [bind_okS, bind_ret]; done) | (simp only [bind_okS, bind_ret, bind_bind]; done) | exact congrArg _ (funext fun _ => congrArg _ (funext fun _ => congrArg ok (decide_eq_decide.mpr Iff.rfl)))))) fun often9 => (J_cons (Γ1 := fun s12 : Unit => [eO 1 (tRec2 (tRow (tRow tInt)) tInt) parts4, eD 3 (tLst tStr) halves6, eD 4 tInt often9]) (S_if (B_eq (B_cmp op_lt (cp_lt _) (nomark _) (E_var 4) E_int) (by first | with_reducible rfl | (simp only [bind_okS]; done) | (simp only [bind_okS, bind_ret]; done) | (simp only [bind_okS, bind_ret, bind_bind]; done) | exact congrArg _ (funext fun _ => congrArg _ (funext fun _ => congrArg ok (decide_eq_decide.mpr Iff.rfl))))) (J_last (S_raise T.x_NoText [])) (J_nil [1, 3, 4] ())) fun s12 => (J_cons (S_eq (S_append 1 (E_rec2 (A_cons (E_call (fx_read_table T) (Nat.le_of_ble_eq_true rfl) (A_cons (E_ixL (E_bor (E_var 3)) E_int) fun _ => A_nil) [] rfl) fun _ => (A_cons (E_var 4) fun _ => A_nil)))) (by first | with_reducible rfl | (simp only [bind_okS]; done) | (simp only [bind_okS, bind_ret]; done) | (simp only [bind_okS, bind_ret, bind_bind]; done) | exact congrArg _ (funext fun _ => congrArg _ (funext fun _ => congrArg ok (decide_eq_decide.mpr Iff.rfl))))) fun parts16 => (J_nil [1] (parts16))))))))) fun parts17 => (J_last (S_retO 1 (fun a => a))))))
theorem sc__law_cell : FnScope N__law_cell ["_law_script", "_law_k"] (defScope s__law_cell) := ⟨rfl, rfl, rfl, by decide +kernel, rfl, by decide +kernel, by decide +kernel⟩
theorem fx__law_cell (T : Facts K mg) : Fx P w K mg base "_law_cell" 1 (.cons tScr (.cons tInt .nil)) (dat tInt) (fun t => m__law_cell t.1 t.2.1) :=
  fx_ret N__law_cell ["_law_script", "_law_k"] T.d__law_cell sc__law_cell rfl (fun _ _ _ _ _ _ us hl => match us, hl with | [_, _], _ => rfl) fun cdv f A outer s H E t => (J_ifrT (B_eq (B_cmp op_eq (cp_eq _) (nomark _) (E_lenL T.n_len (E_borS (E_var 0))) E_int) (by first | with_reducible rfl | (simp only [bind_okS]; done) | (simp only [bind_okS, bind_ret]; done) | (simp only [bind_okS, bind_ret, bind_bind]; done) | exact congrArg _ (funext fun _ => congrArg _ (funext fun _ => congrArg ok (decide_eq_decide.mpr Iff.rfl))))) (J_last (S_retT (E_eq (E_mulL (by decide) E_int (E_add (E_var 1) E_int)) (by first | with_reducible rfl | (simp only [bind_okS]; done) | (simp only [bind_okS, bind_ret]; done) | (simp only [bind_okS, bind_ret, bind_bind]; done) | exact congrArg _ (funext fun _ => congrArg _ (funext fun _ => congrArg ok (decide_eq_decide.mpr Iff.rfl))))))) (J_ifrT (B_eq (B_cmp op_lt (cp_lt _) (nomark _) (E_var 1) (E_lenL T.n_len (E_borS (E_var 0)))) (by first | with_reducible rfl | (simp only [bind_okS]; done) | (simp only [bind_okS, bind_ret]; done) | (simp only [bind_okS, bind_ret, bind_bind]; done) | exact congrArg _ (funext fun _ => congrArg _ (funext fun _ => congrArg ok (decide_eq_decide.mpr Iff.rfl))))) (J_last (S_retT (E_eq (E_ixL (E_borS (E_var 0)) (E_var 1)) (by first | with_reducible rfl | (simp only [bind_okS]; done) | (simp only [bind_okS, bind_ret]; done) | (simp only [bind_okS, bind_ret, bind_bind]; done) | exact congrArg _ (funext fun _ => congrArg _ (funext fun _ => congrArg ok (decide_eq_decide.mpr Iff.rfl))))))) (J_last (S_retT (E_eq (E_add (E_ixL (E_borS (E_var 0)) (E_mod (E_var 1) (E_lenL T.n_len (E_borS (E_var 0))))) (E_mulL (by decide) E_int (E_var 1))) (by first | with_reducible rfl | (simp only [bind_okS]; done) | (simp only [bind_okS, bind_ret]; done) | (simp only [bind_okS, bind_ret, bind_bind]; done) | exact congrArg _ (funext fun _ => congrArg _ (funext fun _ => congrArg ok (decide_eq_decide.mpr Iff.rfl)))))))))
theorem sc__law_mixed : FnScope N__law_mixed ["_law_cell_here", "_law_k", "_law_prime"] (defScope s__law_mixed) := ⟨rfl, rfl, rfl, by decide +kernel, rfl, by decide +kernel, by decide +kernel⟩
theorem fx__law_mixed (T : Facts K mg) : Fx P w K mg base "_law_mixed" 1 (.cons tInt (.cons tInt (.cons tInt .nil))) (dat tInt) (fun t => m__law_mixed t.1 t.2.1 t.2.2.1) :=
  fx_ret N__law_mixed ["_law_cell_here", "_law_k", "_law_prime"] T.d__law_mixed sc__law_mixed rfl (fun _ _ _ _ _ _ us hl => match us, hl with | [_, _, _], _ => rfl) fun cdv f A outer s H E t => (J_cons (S_set 3 (E_eq (E_modR (by decide) (E_mulR (by decide) (E_add (E_add (E_add (E_var 0) (E_mul (E_mulL (by decide) E_int (E_var 1)) (E_var 1))) (E_mulL (by decide) E_int (E_var 1))) E_int) E_int) E_int) (by first | with_reducible rfl | (simp only [bind_okS]; done) | (simp only [bind_okS, bind_ret]; done) | (simp only [bind_okS, bind_ret, bind_bind]; done) | exact congrArg _ (funext fun _ => congrArg _ (funext fun _ => congrArg ok (decide_eq_decide.mpr Iff.rfl)))))) fun far4 => (J_cons (S_set 3 (E_eq (E_modR (by decide) (E_mul (E_var 3) (E_var 3)) E_int) (by first | with_reducible rfl | (simp only [bind_okS]; done) | (simp only [bind_okS, bind_ret]; done) | (simp only [bind_okS, bind_ret, bind_bind]; done) | exact congrArg _ (funext fun _ => congrArg _ (funext fun _ => congrArg ok (decide_eq_decide.mpr Iff.rfl)))))) fun far10 => (J_last (S_retT (E_eq (E_mod (E_mulR (by decide) (E_var 3) E_int) (E_var 2)) (by first | with_reducible rfl | (simp only [bind_okS]; done) | (simp only [bind_okS, bind_ret]; done) | (simp only [bind_okS, bind_ret, bind_bind]; done) | exact congrArg _ (funext fun _ => congrArg _ (funext fun _ => congrArg ok (decide_eq_decide.mpr Iff.rfl)))))))))
theorem sc__law_draws : FnScope N__law_draws ["_law_cell_here", "_law_widths", "_law_prime"] (defScope s__law_draws) := ⟨rfl, rfl, rfl, by decide +kernel, rfl, by decide +kernel, by decide +kernel⟩
theorem fx__law_draws (T : Facts K mg) : Fx P w K mg base "_law_draws" 2 (.cons tInt (.cons (tLst tInt) (.cons tInt .nil))) (own tInt) (fun t => m__law_draws t.1 t.2.1 t.2.2.1) :=
  fx_ret N__law_draws ["_law_cell_here", "_law_widths", "_law_prime"] T.d__law_draws sc__law_draws rfl (fun _ _ _ _ _ _ us hl => match us, hl with | [_, _, _], _ => rfl) fun cdv f A outer s H E t => (J_cons (S_set 3 (E_eq E_int (by first | with_reducible rfl | (simp only [bind_okS]; done) | (simp only [bind_okS, bind_ret]; done) | (simp only [bind_okS, bind_ret, bind_bind]; done) | exact congrArg _ (funext fun _ => congrArg _ (funext fun _ => congrArg ok (decide_eq_decide.mpr Iff.rfl)))))) fun left4 => (J_cons (Γ1 := fun left7 : Int => [eD 0 tInt t.1, eD 1 (tLst tInt) t.2.1, eD 2 tInt t.2.2.1, eD 3 tInt left7]) (S_if (B_eq (B_cmp op_ge (cp_ge _) (nomark _) (E_var 0) (E_powK (c := 1000000000000000000) 18 (by decide) (by decide) (by decide +kernel) E_int E_int)) (by first | with_reducible rfl | (simp only [bind_okS]; done) | (simp only [bind_okS, bind_ret]; done) | (simp only [bind_okS, bind_ret, bind_bind]; done) | exact congrArg _ (funext fun _ => congrArg _ (funext fun _ => congrArg ok (decide_eq_decide.mpr Iff.rfl))))) (J_cons (S_set 3 (E_eq (E_sub (E_var 0) (E_powK (c := 1000000000000000000) 18 (by decide) (by decide) (by decide +kernel) E_int E_int)) (by first | with_reducible rfl | (simp only [bind_okS]; done) | (simp only [bind_okS, bind_ret]; done) | (simp only [bind_okS, bind_ret, bind_bind]; done) | exact congrArg _ (funext fun _ => congrArg _ (funext fun _ => congrArg ok (decide_eq_decide.mpr Iff.rfl)))))) fun left6 => (J_nil [0, 1, 2, 3] (left6))) (J_nil [0, 1, 2, 3] (left4))) fun left7 => (J_cons (S_setO 4 (E_eq (E_eq (E_lst I_nil) (psz_w (xs := ([] : List Int)) rfl)) (by first | with_reducible rfl | (simp only [bind_okS]; done) | (simp only [bind_okS, bind_ret]; done) | (simp only [bind_okS, bind_ret, bind_bind]; done) | exact congrArg _ (funext fun _ => congrArg _ (funext fun _ => congrArg ok (decide_eq_decide.mpr Iff.rfl)))))) fun found8 => (J_cons (S_for (Γl := fun s9 : Int × (List Int) => [eD 0 tInt t.1, eD 1 (tLst tInt) t.2.1, eD 2 tInt t.2.2.1, eD 3 tInt s9.1, eO 4 tInt s9.2]) [0, 1, 2, 3, 4] (left7, found8) (I_eq (I_rangeI T.n_range (E_lenL T.n_len (E_bor (E_var 1)))) (by first | with_reducible rfl | (simp only [bind_okS]; done) | (simp only [bind_okS, bind_ret]; done) | (simp only [bind_okS, bind_ret, bind_bind]; done) | exact congrArg _ (funext fun _ => congrArg _ (funext fun _ => congrArg ok (decide_eq_decide.mpr Iff.rfl))))) (G_name 5) (fun s9 k10 => (J_last (S_if (B_eq (B_cmp op_gt (cp_gt _) (nomark _) (E_var 3) E_int) (by first | with_reducible rfl | (simp only [bind_okS]; done) | (simp only [bind_okS, bind_ret]; done) | (simp only [bind_okS, bind_ret, bind_bind]; done) | exact congrArg _ (funext fun _ => congrArg _ (funext fun _ => congrArg ok (decide_eq_decide.mpr Iff.rfl))))) (J_cons (S_eq (S_append 4 (E_mod (E_var 3) (E_ixL (E_bor (E_var 1)) (E_var 5)))) (by first | with_reducible rfl | (simp only [bind_okS]; done) | (simp only [bind_okS, bind_ret]; done) | (simp only [bind_okS, bind_ret, bind_bind]; done) | exact congrArg _ (funext fun _ => congrArg _ (funext fun _ => congrArg ok (decide_eq_decide.mpr Iff.rfl))))) fun found14 => (J_cons (S_set 3 (E_eq (E_div (E_var 3) (E_ixL (E_bor (E_var 1)) (E_var 5))) (by first | with_reducible rfl | (simp only [bind_okS]; done) | (simp only [bind_okS, bind_ret]; done) | (simp only [bind_okS, bind_ret, bind_bind]; done) | exact congrArg _ (funext fun _ => congrArg _ (funext fun _ => congrArg ok (decide_eq_decide.mpr Iff.rfl)))))) fun left15 => (J_nil [0, 1, 2, 3, 4] (left15, found14)))) (J_cons (S_eq (S_append 4 (E_mod (E_call (fx__law_mixed T) (Nat.le_of_ble_eq_true rfl) (A_cons (E_var 0) fun _ => (A_cons (E_var 5) fun _ => (A_cons (E_var 2) fun _ => A_nil))) [] rfl) (E_ixL (E_bor (E_var 1)) (E_var 5)))) (by first | with_reducible rfl | (simp only [bind_okS]; done) | (simp only [bind_okS, bind_ret]; done) | (simp only [bind_okS, bind_ret, bind_bind]; done) | exact congrArg _ (funext fun _ => congrArg _ (funext fun _ => congrArg ok (decide_eq_decide.mpr Iff.rfl))))) fun found20 => (J_nil [0, 1, 2, 3, 4] (s9.1, found20))))))) fun s21 => (J_last (S_retO 4 (fun a => a)))))))
theorem sc__law_whole : FnScope N__law_whole ["_law_found"] (defScope s__law_whole) := ⟨rfl, rfl, rfl, by decide +kernel, rfl, by decide +kernel, by decide +kernel⟩
theorem fx__law_whole (T : Facts K mg) : Fx P w K mg base "_law_whole" 1 (.cons tInt .nil) (dat tBool) (fun t => m__law_whole t.1) :=
  fx_ret N__law_whole ["_law_found"] T.d__law_whole sc__law_whole rfl (fun _ _ _ _ _ _ us hl => match us, hl with | [_], _ => rfl) fun cdv f A outer s H E t => (by show JB _ _ _ _ _ _ (m__law_whole t.1); unfold m__law_whole; exact (J_last (S_retT (E_eq (E_and (E_isi (C := "int") (r := true) ty_int (by decide +kernel) T.n_isinstance T.n_int (by decide +kernel) (E_var 0)) (E_one (E_not (E_isi (C := "bool") (r := false) ty_int (by decide +kernel) T.n_isinstance T.n_bool (by decide +kernel) (E_var 0))))) (by first | with_reducible rfl | (simp only [bind_okS]; done) | (simp only [bind_okS, bind_ret]; done) | (simp only [bind_okS, bind_ret, bind_bind]; done) | exact congrArg _ (funext fun _ => congrArg _ (funext fun _ => congrArg ok (decide_eq_decide.mpr Iff.rfl))))))))
theorem sc__law_row : FnScope N__law_row ["_law_found", "_law_many"] (defScope s__law_row) := ⟨rfl, rfl, rfl, by decide +kernel, rfl, by decide +kernel, by decide +kernel⟩
theorem fx__law_row (T : Facts K mg) : Fx P w K mg base "_law_row" 2 (.cons (tRow tInt) (.cons tInt .nil)) (dat tBool) (fun t => m__law_row t.1 t.2.1) :=
  fx_ret N__law_row ["_law_found", "_law_many"] T.d__law_row sc__law_row rfl (fun _ _ _ _ _ _ us hl => match us, hl with | [_, _], _ => rfl) fun cdv f A outer s H E t => (J_ifrT (B_eq (B_w (W_or (B_not (B_val (E_isi (C := "tuple") (r := true) (ty_row _) (by decide +kernel) T.n_isinstance T.n_tuple (by decide +kernel) (E_var 0)))) (W_or1 (B_cmp op_ne (cp_ne _) (nomark _) (E_lenT T.n_len (E_var 0)) (E_var 1))))) (by first | with_reducible rfl | (simp only [bind_okS]; done) | (simp only [bind_okS, bind_ret]; done) | (simp only [bind_okS, bind_ret, bind_bind]; done) | exact congrArg _ (funext fun _ => congrArg _ (funext fun _ => congrArg ok (decide_eq_decide.mpr Iff.rfl))))) (J_last (S_retT (E_eq E_bool (by first | with_reducible rfl | (simp only [bind_okS]; done) | (simp only [bind_okS, bind_ret]; done) | (simp only [bind_okS, bind_ret, bind_bind]; done) | exact congrArg _ (funext fun _ => congrArg _ (funext fun _ => congrArg ok (decide_eq_decide.mpr Iff.rfl))))))) (J_last (S_retT (E_eq (E_all T.n_all (E_borF (E_comp (C_map (own := [("_law_place", 2)]) (hok := (by first | (show blkC N__law_row (defScope s__law_row) _ _ = true; decide +kernel) | kernel_rfl)) (I_eq (I_tup (E_var 0)) (by first | with_reducible rfl | (simp only [bind_okS]; done) | (simp only [bind_okS, bind_ret]; done) | (simp only [bind_okS, bind_ret, bind_bind]; done) | exact congrArg _ (funext fun _ => congrArg _ (funext fun _ => congrArg ok (decide_eq_decide.mpr Iff.rfl))))) (fun _ _ _ _ _ => (G_name 2)) (fun _ _ _ _ _ place5 => (E_eq (E_call (fx__law_whole T) (Nat.le_of_ble_eq_true rfl) (A_cons (E_var 2) fun _ => A_nil) [] rfl) (by first | with_reducible rfl | (simp only [bind_okS]; done) | (simp only [bind_okS, bind_ret]; done) | (simp only [bind_okS, bind_ret, bind_bind]; done) | exact congrArg _ (funext fun _ => congrArg _ (funext fun _ => congrArg ok (decide_eq_decide.mpr Iff.rfl)))))))))) (by first | with_reducible rfl | (simp only [bind_okS]; done) | (simp only [bind_okS, bind_ret]; done) | (simp only [bind_okS, bind_ret, bind_bind]; done) | exact congrArg _ (funext fun _ => congrArg _ (funext fun _ => congrArg ok (decide_eq_decide.mpr Iff.rfl))))))))
theorem sc__law_is_table : FnScope N__law_is_table ["_law_found", "_law_many"] (defScope s__law_is_table) := ⟨rfl, rfl, rfl, by decide +kernel, rfl, by decide +kernel, by decide +kernel⟩
theorem fx__law_is_table (T : Facts K mg) : Fx P w K mg base "_law_is_table" 3 (.cons (tRow (tRow tInt)) (.cons tInt .nil)) (dat tBool) (fun t => m__law_is_table t.1 t.2.1) :=
  fx_ret N__law_is_table ["_law_found", "_law_many"] T.d__law_is_table sc__law_is_table rfl (fun _ _ _ _ _ _ us hl => match us, hl with | [_, _], _ => rfl) fun cdv f A outer s H E t => (J_ifrT (B_eq (B_w (W_or (B_not (B_val (E_isi (C := "tuple") (r := true) (ty_row _) (by decide +kernel) T.n_isinstance T.n_tuple (by decide +kernel) (E_var 0)))) (W_or1 (B_cmp op_ne (cp_ne _) (nomark _) (E_lenT T.n_len (E_var 0)) (E_var 1))))) (by first | with_reducible rfl | (simp only [bind_okS]; done) | (simp only [bind_okS, bind_ret]; done) | (simp only [bind_okS, bind_ret, bind_bind]; done) | exact congrArg _ (funext fun _ => congrArg _ (funext fun _ => congrArg ok (decide_eq_decide.mpr Iff.rfl))))) (J_last (S_retT (E_eq E_bool (by first | with_reducible rfl | (simp only [bind_okS]; done) | (simp only [bind_okS, bind_ret]; done) | (simp only [bind_okS, bind_ret, bind_bind]; done) | exact congrArg _ (funext fun _ => congrArg _ (funext fun _ => congrArg ok (decide_eq_decide.mpr Iff.rfl))))))) (J_last (S_retT (E_eq (E_all T.n_all (E_borF (E_comp (C_map (own := [("_law_row_here", 2)]) (hok := (by first | (show blkC N__law_is_table (defScope s__law_is_table) _ _ = true; decide +kernel) | kernel_rfl)) (I_eq (I_tup (E_var 0)) (by first | with_reducible rfl | (simp only [bind_okS]; done) | (simp only [bind_okS, bind_ret]; done) | (simp only [bind_okS, bind_ret, bind_bind]; done) | exact congrArg _ (funext fun _ => congrArg _ (funext fun _ => congrArg ok (decide_eq_decide.mpr Iff.rfl))))) (fun _ _ _ _ _ => (G_name 2)) (fun _ _ _ _ _ row_here5 => (E_eq (E_call (fx__law_row T) (Nat.le_of_ble_eq_true rfl) (A_cons (E_var 2) fun _ => (A_cons (E_var 1) fun _ => A_nil)) [] rfl) (by first | with_reducible rfl | (simp only [bind_okS]; done) | (simp only [bind_okS, bind_ret]; done) | (simp only [bind_okS, bind_ret, bind_bind]; done) | exact congrArg _ (funext fun _ => congrArg _ (funext fun _ => congrArg ok (decide_eq_decide.mpr Iff.rfl)))))))))) (by first | with_reducible rfl | (simp only [bind_okS]; done) | (simp only [bind_okS, bind_ret]; done) | (simp only [bind_okS, bind_ret, bind_bind]; done) | exact congrArg _ (funext fun _ => congrArg _ (funext fun _ => congrArg ok (decide_eq_decide.mpr Iff.rfl))))))))
theorem sc__law_places : FnScope N__law_places ["_law_cell_here", "_law_many", "_law_prime"] (defScope s__law_places) := ⟨rfl, rfl, rfl, by decide +kernel, rfl, by decide +kernel, by decide +kernel⟩
theorem fx__law_places (T : Facts K mg) : Fx P w K mg base "_law_places" 3 (.cons tInt (.cons tInt (.cons tInt .nil))) (dat (tRow tInt)) (fun t => m__law_places t.1 t.2.1 t.2.2.1) :=
  fx_ret N__law_places ["_law_cell_here", "_law_many", "_law_prime"] T.d__law_places sc__law_places rfl (fun _ _ _ _ _ _ us hl => match us, hl with | [_, _, _], _ => rfl) fun cdv f A outer s H E t => (J_cons (S_set 3 (E_eq (E_frz (E_call (fx__law_draws T) (Nat.le_of_ble_eq_true rfl) (A_cons (E_var 0) fun _ => (A_cons (E_frz (E_rep (E_borTF (E_cat (E_borTF (E_eq (E_lst (I_cons E_int fun _ => (I_cons E_int fun _ => (I_cons E_int fun _ => (I_cons E_int fun _ => I_nil))))) (psz_w (xs := [5, 41, 60, 3]) rfl))) (E_borTF (E_rep (E_borTF (E_eq (E_lst (I_cons (E_powK (c := 100000000) 8 (by decide) (by decide) (by decide +kernel) E_int E_int) fun _ => I_nil)) (psz_w (xs := [100000000]) rfl))) E_int)))) (E_var 1))) fun _ => (A_cons (E_var 2) fun _ => A_nil))) [] rfl)) (by first | with_reducible rfl | (simp only [bind_okS]; done) | (simp only [bind_okS, bind_ret]; done) | (simp only [bind_okS, bind_ret, bind_bind]; done) | exact congrArg _ (funext fun _ => congrArg _ (funext fun _ => congrArg ok (decide_eq_decide.mpr Iff.rfl)))))) fun found4 => (J_cons (S_setO 4 (E_eq (E_eq (E_lst I_nil) (psz_w (xs := ([] : List Int)) rfl)) (by first | with_reducible rfl | (simp only [bind_okS]; done) | (simp only [bind_okS, bind_ret]; done) | (simp only [bind_okS, bind_ret, bind_bind]; done) | exact congrArg _ (funext fun _ => congrArg _ (funext fun _ => congrArg ok (decide_eq_decide.mpr Iff.rfl)))))) fun row_here8 => (J_cons (S_for (Γl := fun row_here9 : (List Int) => [eD 3 (tLst tInt) found4, eO 4 tInt row_here9]) [3, 4] (row_here8) (I_eq (I_rangeI T.n_range (E_var 1)) (by first | with_reducible rfl | (simp only [bind_okS]; done) | (simp only [bind_okS, bind_ret]; done) | (simp only [bind_okS, bind_ret, bind_bind]; done) | exact congrArg _ (funext fun _ => congrArg _ (funext fun _ => congrArg ok (decide_eq_decide.mpr Iff.rfl))))) (G_name 5) (fun row_here9 k10 => (J_cons (S_set 6 (E_eq (E_frz (E_slL (E_bor (E_var 3)) (O_some (E_mulL (by decide) E_int (E_var 5))) (O_some (E_add (E_mulL (by decide) E_int (E_var 5)) E_int)))) (by first | with_reducible rfl | (simp only [bind_okS]; done) | (simp only [bind_okS, bind_ret]; done) | (simp only [bind_okS, bind_ret, bind_bind]; done) | exact congrArg _ (funext fun _ => congrArg _ (funext fun _ => congrArg ok (decide_eq_decide.mpr Iff.rfl)))))) fun part11 => (J_cons (S_set 7 (E_eq E_int (by first | with_reducible rfl | (simp only [bind_okS]; done) | (simp only [bind_okS, bind_ret]; done) | (simp only [bind_okS, bind_ret, bind_bind]; done) | exact congrArg _ (funext fun _ => congrArg _ (funext fun _ => congrArg ok (decide_eq_decide.mpr Iff.rfl)))))) fun far12 => (J_cons (S_for (Γl := fun far13 : Int => [eD 3 (tLst tInt) found4, eO 4 tInt row_here9, eD 6 (tLst tInt) part11, eD 7 tInt far13]) [3, 4, 6, 7] (far12) (I_eq (I_list (E_frz (E_slL (E_bor (E_var 6)) (O_some E_int) O_none))) (by first | with_reducible rfl | (simp only [bind_okS]; done) | (simp only [bind_okS, bind_ret]; done) | (simp only [bind_okS, bind_ret, bind_bind]; done) | exact congrArg _ (funext fun _ => congrArg _ (funext fun _ => congrArg ok (decide_eq_decide.mpr Iff.rfl))))) (G_name 8) (fun far13 low14 => (J_cons (S_set 7 (E_eq (E_add (E_mulR (by decide) (E_var 7) (E_powK (c := 100000000) 8 (by decide) (by decide) (by decide +kernel) E_int E_int)) (E_var 8)) (by first | with_reducible rfl | (simp only [bind_okS]; done) | (simp only [bind_okS, bind_ret]; done) | (simp only [bind_okS, bind_ret, bind_bind]; done) | exact congrArg _ (funext fun _ => congrArg _ (funext fun _ => congrArg ok (decide_eq_decide.mpr Iff.rfl)))))) fun far15 => (J_nil [3, 4, 6, 7] (far15))))) fun far16 => (J_cons (S_set 9 (E_eq (E_sub (E_mod (E_var 7) (E_sub (E_mulK (c := 2000000000000000000000000000000000000000000000000000000000000) (by decide +kernel) (by decide +kernel) E_int (E_powK (c := 1000000000000000000000000000000000000000000000000000000000000) 60 (by decide) (by decide) (by decide +kernel) E_int E_int)) E_int)) (E_sub (E_powK (c := 1000000000000000000000000000000000000000000000000000000000000) 60 (by decide) (by decide) (by decide +kernel) E_int E_int) E_int)) (by first | with_reducible rfl | (simp only [bind_okS]; done) | (simp only [bind_okS, bind_ret]; done) | (simp only [bind_okS, bind_ret, bind_bind]; done) | exact congrArg _ (funext fun _ => congrArg _ (funext fun _ => congrArg ok (decide_eq_decide.mpr Iff.rfl)))))) fun place17 => (J_cons (Γ1 := fun place23 : Int => [eD 3 (tLst tInt) found4, eO 4 tInt row_here9, eD 6 (tLst tInt) part11, eD 9 tInt place23]) (S_if (B_eq (B_cmp op_lt (cp_lt _) (nomark _) (E_ixL (E_bor (E_var 6)) E_int) E_int) (by first | with_reducible rfl | (simp only [bind_okS]; done) | (simp only [bind_okS, bind_ret]; done) | (simp only [bind_okS, bind_ret, bind_bind]; done) | exact congrArg _ (funext fun _ => congrArg _ (funext fun _ => congrArg ok (decide_eq_decide.mpr Iff.rfl))))) (J_cons (S_set 9 (E_eq (E_sub (E_ixL (E_bor (E_var 6)) E_int) E_int) (by first | with_reducible rfl | (simp only [bind_okS]; done) | (simp only [bind_okS, bind_ret]; done) | (simp only [bind_okS, bind_ret, bind_bind]; done) | exact congrArg _ (funext fun _ => congrArg _ (funext fun _ => congrArg ok (decide_eq_decide.mpr Iff.rfl)))))) fun place21 => (J_nil [3, 4, 6, 9] (place21))) (J_nil [3, 4, 6, 9] (place17))) fun place23 => (J_cons (Γ1 := fun place35 : Int => [eD 3 (tLst tInt) found4, eO 4 tInt row_here9, eD 6 (tLst tInt) part11, eD 9 tInt place35]) (S_if (B_eq (B_cmp op_gt (cp_gt _) (nomark _) (E_ixL (E_bor (E_var 6)) E_int) E_int) (by first | with_reducible rfl | (simp only [bind_okS]; done) | (simp only [bind_okS, bind_ret]; done) | (simp only [bind_okS, bind_ret, bind_bind]; done) | exact congrArg _ (funext fun _ => congrArg _ (funext fun _ => congrArg ok (decide_eq_decide.mpr Iff.rfl))))) (J_cons (S_set 9 (E_eq E_int (by first | with_reducible rfl | (simp only [bind_okS]; done) | (simp only [bind_okS, bind_ret]; done) | (simp only [bind_okS, bind_ret, bind_bind]; done) | exact congrArg _ (funext fun _ => congrArg _ (funext fun _ => congrArg ok (decide_eq_decide.mpr Iff.rfl)))))) fun place26 => (J_cons (S_for (Γl := fun place28 : Int => [eD 3 (tLst tInt) found4, eO 4 tInt row_here9, eD 6 (tLst tInt) part11, eD 9 tInt place28]) [3, 4, 6, 9] (place26) (I_eq (I_rangeI T.n_range (E_ixL (E_bor (E_var 6)) E_int)) (by first | with_reducible rfl | (simp only [bind_okS]; done) | (simp only [bind_okS, bind_ret]; done) | (simp only [bind_okS, bind_ret, bind_bind]; done) | exact congrArg _ (funext fun _ => congrArg _ (funext fun _ => congrArg ok (decide_eq_decide.mpr Iff.rfl))))) (G_name 10) (fun place28 j29 => (J_cons (S_set 9 (E_eq (E_mulR (by decide) (E_var 9) E_int) (by first | with_reducible rfl | (simp only [bind_okS]; done) | (simp only [bind_okS, bind_ret]; done) | (simp only [bind_okS, bind_ret, bind_bind]; done) | exact congrArg _ (funext fun _ => congrArg _ (funext fun _ => congrArg ok (decide_eq_decide.mpr Iff.rfl)))))) fun place30 => (J_nil [3, 4, 6, 9] (place30))))) fun place31 => (J_cons (S_set 9 (E_eq (E_sub (E_add (E_var 9) (E_ixL (E_bor (E_var 6)) E_int)) E_int) (by first | with_reducible rfl | (simp only [bind_okS]; done) | (simp only [bind_okS, bind_ret]; done) | (simp only [bind_okS, bind_ret, bind_bind]; done) | exact congrArg _ (funext fun _ => congrArg _ (funext fun _ => congrArg ok (decide_eq_decide.mpr Iff.rfl)))))) fun place32 => (J_nil [3, 4, 6, 9] (place32))))) (J_nil [3, 4, 6, 9] (place23))) fun place35 => (J_cons (Γ1 := fun place39 : Int => [eD 3 (tLst tInt) found4, eO 4 tInt row_here9, eD 9 tInt place39]) (S_if (B_eq (B_cmp op_eq (cp_eq _) (nomark _) (E_ixL (E_bor (E_var 6)) E_int) E_int) (by first | with_reducible rfl | (simp only [bind_okS]; done) | (simp only [bind_okS, bind_ret]; done) | (simp only [bind_okS, bind_ret, bind_bind]; done) | exact congrArg _ (funext fun _ => congrArg _ (funext fun _ => congrArg ok (decide_eq_decide.mpr Iff.rfl))))) (J_cons (S_set 9 (E_eq (E_neg (E_var 9)) (by first | with_reducible rfl | (simp only [bind_okS]; done) | (simp only [bind_okS, bind_ret]; done) | (simp only [bind_okS, bind_ret, bind_bind]; done) | exact congrArg _ (funext fun _ => congrArg _ (funext fun _ => congrArg ok (decide_eq_decide.mpr Iff.rfl)))))) fun place38 => (J_nil [3, 4, 9] (place38))) (J_nil [3, 4, 9] (place35))) fun place39 => (J_cons (S_eq (S_append 4 (E_var 9)) (by first | with_reducible rfl | (simp only [bind_okS]; done) | (simp only [bind_okS, bind_ret]; done) | (simp only [bind_okS, bind_ret, bind_bind]; done) | exact congrArg _ (funext fun _ => congrArg _ (funext fun _ => congrArg ok (decide_eq_decide.mpr Iff.rfl))))) fun row_here40 => (J_nil [3, 4] (row_here40)))))))))))) fun row_here41 => (J_last (S_retT (E_eq (E_tupleL T.n_tuple (E_own 4)) (by first | with_reducible rfl | (simp only [bind_okS]; done) | (simp only [bind_okS, bind_ret]; done) | (simp only [bind_okS, bind_ret, bind_bind]; done) | exact congrArg _ (funext fun _ => congrArg _ (funext fun _ => congrArg ok (decide_eq_decide.mpr Iff.rfl))))))))))
theorem sc__law_square_table : FnScope N__law_square_table ["_law_cell_here", "_law_many", "_law_prime"] (defScope s__law_square_table) := ⟨rfl, rfl, rfl, by decide +kernel, rfl, by decide +kernel, by decide +kernel⟩
theorem fx__law_square_table (T : Facts K mg) : Fx P w K mg base "_law_square_table" 4 (.cons tInt (.cons tInt (.cons tInt .nil))) (dat (tRow (tRow tInt))) (fun t => m__law_square_table t.1 t.2.1 t.2.2.1) :=
  fx_ret N__law_square_table ["_law_cell_here", "_law_many", "_law_prime"] T.d__law_square_table sc__law_square_table rfl (fun _ _ _ _ _ _ us hl => match us, hl with | [_, _, _], _ => rfl) fun cdv f A outer s H E t => (J_cons (S_set 3 (E_eq (E_call (fx__law_places T) (Nat.le_of_ble_eq_true rfl) (A_cons (E_var 0) fun _ => (A_cons (E_mul (E_var 1) (E_var 1)) fun _ => (A_cons (E_var 2) fun _ => A_nil))) [] rfl) (by first | with_reducible rfl | (simp only [bind_okS]; done) | (simp only [bind_okS, bind_ret]; done) | (simp only [bind_okS, bind_ret, bind_bind]; done) | exact congrArg _ (funext fun _ => congrArg _ (funext fun _ => congrArg ok (decide_eq_decide.mpr Iff.rfl)))))) fun found4 => (J_last (S_retT (E_eq (E_tupleL T.n_tuple (E_borF (E_comp (C_map (own := [("_law_k", 4)]) (hok := (by first | (show blkC N__law_square_table (defScope s__law_square_table) _ _ = true; decide +kernel) | kernel_rfl)) (I_eq (I_rangeI T.n_range (E_var 1)) (by first | with_reducible rfl | (simp only [bind_okS]; done) | (simp only [bind_okS, bind_ret]; done) | (simp only [bind_okS, bind_ret, bind_bind]; done) | exact congrArg _ (funext fun _ => congrArg _ (funext fun _ => congrArg ok (decide_eq_decide.mpr Iff.rfl))))) (fun _ _ _ _ _ => (G_name 4)) (fun _ _ _ _ _ k6 => (E_eq (E_slT (E_var 3) (O_some (E_mul (E_var 1) (E_var 4))) (O_some (E_add (E_mul (E_var 1) (E_var 4)) (E_var 1)))) (by first | with_reducible rfl | (simp only [bind_okS]; done) | (simp only [bind_okS, bind_ret]; done) | (simp only [bind_okS, bind_ret, bind_bind]; done) | exact congrArg _ (funext fun _ => congrArg _ (funext fun _ => congrArg ok (decide_eq_decide.mpr Iff.rfl)))))))))) (by first | with_reducible rfl | (simp only [bind_okS]; done) | (simp only [bind_okS, bind_ret]; done) | (simp only [bind_okS, bind_ret, bind_bind]; done) | exact congrArg _ (funext fun _ => congrArg _ (funext fun _ => congrArg ok (decide_eq_decide.mpr Iff.rfl))))))))
theorem sc__law_few_parts : FnScope N__law_few_parts ["_law_script", "_law_k", "_law_prime"] (defScope s__law_few_parts) := ⟨rfl, rfl, rfl, by decide +kernel, rfl, by decide +kernel, by decide +kernel⟩
theorem fx__law_few_parts (T : Facts K mg) : Fx P w K mg base "_law_few_parts" 5 (.cons tScr (.cons tInt (.cons tInt .nil))) (own (tRec2 (tRow (tRow tInt)) tInt)) (fun t => m__law_few_parts t.1 t.2.1 t.2.2.1) :=
  fx_ret N__law_few_parts ["_law_script", "_law_k", "_law_prime"] T.d__law_few_parts sc__law_few_parts rfl (fun _ _ _ _ _ _ us hl => match us, hl with | [_, _, _], _ => rfl) fun cdv f A outer s H E t => (J_cons (S_set 3 (E_eq (E_frz (E_call (fx__law_draws T) (Nat.le_of_ble_eq_true rfl) (A_cons (E_call (fx__law_cell T) (Nat.le_of_ble_eq_true rfl) (A_cons (E_var 0) fun _ => (A_cons (E_var 1) fun _ => A_nil)) [] rfl) fun _ => (A_cons (E_frz (E_eq (E_lst (I_cons E_int fun _ => (I_cons E_int fun _ => (I_cons E_int fun _ => (I_cons E_int fun _ => (I_cons E_int fun _ => I_nil)))))) (psz_w (xs := [5, 4, 4, 4, 4]) rfl))) fun _ => (A_cons (E_var 2) fun _ => A_nil))) [] rfl)) (by first | with_reducible rfl | (simp only [bind_okS]; done) | (simp only [bind_okS, bind_ret]; done) | (simp only [bind_okS, bind_ret, bind_bind]; done) | exact congrArg _ (funext fun _ => congrArg _ (funext fun _ => congrArg ok (decide_eq_decide.mpr Iff.rfl)))))) fun deep4 => (J_cons (S_setO 4 (E_eq (E_eq (E_lst I_nil) (psz_w (xs := ([] : List ((List (List Int)) × Int))) rfl)) (by first | with_reducible rfl | (simp only [bind_okS]; done) | (simp only [bind_okS, bind_ret]; done) | (simp only [bind_okS, bind_ret, bind_bind]; done) | exact congrArg _ (funext fun _ => congrArg _ (funext fun _ => congrArg ok (decide_eq_decide.mpr Iff.rfl)))))) fun found6 => (J_cons (S_for (Γl := fun found8 : (List ((List (List Int)) × Int)) => [eD 0 tScr t.1, eD 1 tInt t.2.1, eD 2 tInt t.2.2.1, eD 3 (tLst tInt) deep4, eO 4 (tRec2 (tRow (tRow tInt)) tInt) found8]) [0, 1, 2, 3, 4] (found6) (I_eq (I_rangeI T.n_range (E_ixL (E_bor (E_var 3)) E_int)) (by first | with_reducible rfl | (simp only [bind_okS]; done) | (simp only [bind_okS, bind_ret]; done) | (simp only [bind_okS, bind_ret, bind_bind]; done) | exact congrArg _ (funext fun _ => congrArg _ (funext fun _ => congrArg ok (decide_eq_decide.mpr Iff.rfl))))) (G_name 5) (fun found8 j9 => (J_cons (S_set 6 (E_eq (E_call (fx__law_places T) (Nat.le_of_ble_eq_true rfl) (A_cons (E_call (fx__law_cell T) (Nat.le_of_ble_eq_true rfl) (A_cons (E_var 0) fun _ => (A_cons (E_add (E_add (E_var 1) E_int) (E_var 5)) fun _ => A_nil)) [] rfl) fun _ => (A_cons E_int fun _ => (A_cons E_int fun _ => A_nil))) [] rfl) (by first | with_reducible rfl | (simp only [bind_okS]; done) | (simp only [bind_okS, bind_ret]; done) | (simp only [bind_okS, bind_ret, bind_bind]; done) | exact congrArg _ (funext fun _ => congrArg _ (funext fun _ => congrArg ok (decide_eq_decide.mpr Iff.rfl)))))) fun far10 => (J_cons (S_eq (S_append 4 (E_rec2 (A_cons (E_call (fx__law_square_table T) (Nat.le_of_ble_eq_true rfl) (A_cons (E_call (fx__law_cell T) (Nat.le_of_ble_eq_true rfl) (A_cons (E_var 0) fun _ => (A_cons (E_add (E_add (E_var 1) E_int) (E_var 5)) fun _ => A_nil)) [] rfl) fun _ => (A_cons (E_add (E_ixL (E_bor (E_var 3)) (E_add E_int (E_var 5))) E_int) fun _ => (A_cons (E_var 2) fun _ => A_nil))) [] rfl) fun _ => (A_cons (E_max2 T.n_max rfl E_int (E_abs T.n_abs (E_ixT (E_var 6) E_int))) fun _ => A_nil)))) (by first | with_reducible rfl | (simp only [bind_okS]; done) | (simp only [bind_okS, bind_ret]; done) | (simp only [bind_okS, bind_ret, bind_bind]; done) | exact congrArg _ (funext fun _ => congrArg _ (funext fun _ => congrArg ok (decide_eq_decide.mpr Iff.rfl))))) fun found20 => (J_nil [0, 1, 2, 3, 4] (found20)))))) fun found21 => (J_last (S_retO 4 (fun a => a))))))
theorem sc__law_row_text : FnScope N__law_row_text ["_law_row_here"] (defScope s__law_row_text) := ⟨rfl, rfl, rfl, by decide +kernel, rfl, by decide +kernel, by decide +kernel⟩
theorem fx__law_row_text (T : Facts K mg) : Fx P w K mg base "_law_row_text" 1 (.cons (tRow tInt) .nil) (dat tStr) (fun t => m__law_row_text t.1) :=
  fx_ret N__law_row_text ["_law_row_here"] T.d__law_row_text sc__law_row_text rfl (fun _ _ _ _ _ _ us hl => match us, hl with | [_], _ => rfl) fun cdv f A outer s H E t => (by show JB _ _ _ _ _ _ (m__law_row_text t.1); unfold m__law_row_text; exact (J_last (S_retT (E_eq (E_eq (E_join (E_borF (E_comp (C_map (own := [("_law_place", 1)]) (hok := (by first | (show blkC N__law_row_text (defScope s__law_row_text) _ _ = true; decide +kernel) | kernel_rfl)) (I_eq (I_tup (E_var 0)) (by first | with_reducible rfl | (simp only [bind_okS]; done) | (simp only [bind_okS, bind_ret]; done) | (simp only [bind_okS, bind_ret, bind_bind]; done) | exact congrArg _ (funext fun _ => congrArg _ (funext fun _ => congrArg ok (decide_eq_decide.mpr Iff.rfl))))) (fun _ _ _ _ _ => (G_name 1)) (fun _ _ _ _ _ place2 => (E_eq (E_strI T.n_str (E_var 1)) (by first | with_reducible rfl | (simp only [bind_okS]; done) | (simp only [bind_okS, bind_ret]; done) | (simp only [bind_okS, bind_ret, bind_bind]; done) | exact congrArg _ (funext fun _ => congrArg _ (funext fun _ => congrArg ok (decide_eq_decide.mpr Iff.rfl)))))))))) (by first | with_reducible rfl | (simp only [bind_okS]; done) | (simp only [bind_okS, bind_ret]; done) | (simp only [bind_okS, bind_ret, bind_bind]; done) | exact congrArg _ (funext fun _ => congrArg _ (funext fun _ => congrArg ok (decide_eq_decide.mpr Iff.rfl))))) (by first | with_reducible rfl | (simp only [bind_okS]; done) | (simp only [bind_okS, bind_ret]; done) | (simp only [bind_okS, bind_ret, bind_bind]; done) | exact congrArg _ (funext fun _ => congrArg _ (funext fun _ => congrArg ok (decide_eq_decide.mpr Iff.rfl))))))))
theorem sc__law_table_text : FnScope N__law_table_text ["_law_table"] (defScope s__law_table_text) := ⟨rfl, rfl, rfl, by decide +kernel, rfl, by decide +kernel, by decide +kernel⟩
theorem fx__law_table_text (T : Facts K mg) : Fx P w K mg base "_law_table_text" 2 (.cons (tRow (tRow tInt)) .nil) (dat tStr) (fun t => m__law_table_text t.1) :=
  fx_ret N__law_table_text ["_law_table"] T.d__law_table_text sc__law_table_text rfl (fun _ _ _ _ _ _ us hl => match us, hl with | [_], _ => rfl) fun cdv f A outer s H E t => (by show JB _ _ _ _ _ _ (m__law_table_text t.1); unfold m__law_table_text; exact (J_last (S_retT (E_eq (E_eq (E_join (E_borF (E_comp (C_map (own := [("_law_row_here", 1)]) (hok := (by first | (show blkC N__law_table_text (defScope s__law_table_text) _ _ = true; decide +kernel) | kernel_rfl)) (I_eq (I_tup (E_var 0)) (by first | with_reducible rfl | (simp only [bind_okS]; done) | (simp only [bind_okS, bind_ret]; done) | (simp only [bind_okS, bind_ret, bind_bind]; done) | exact congrArg _ (funext fun _ => congrArg _ (funext fun _ => congrArg ok (decide_eq_decide.mpr Iff.rfl))))) (fun _ _ _ _ _ => (G_name 1)) (fun _ _ _ _ _ row_here2 => (E_eq (E_call (fx__law_row_text T) (Nat.le_of_ble_eq_true rfl) (A_cons (E_var 1) fun _ => A_nil) [] rfl) (by first | with_reducible rfl | (simp only [bind_okS]; done) | (simp only [bind_okS, bind_ret]; done) | (simp only [bind_okS, bind_ret, bind_bind]; done) | exact congrArg _ (funext fun _ => congrArg _ (funext fun _ => congrArg ok (decide_eq_decide.mpr Iff.rfl)))))))))) (by first | with_reducible rfl | (simp only [bind_okS]; done) | (simp only [bind_okS, bind_ret]; done) | (simp only [bind_okS, bind_ret, bind_bind]; done) | exact congrArg _ (funext fun _ => congrArg _ (funext fun _ => congrArg ok (decide_eq_decide.mpr Iff.rfl))))) (by first | with_reducible rfl | (simp only [bind_okS]; done) | (simp only [bind_okS, bind_ret]; done) | (simp only [bind_okS, bind_ret, bind_bind]; done) | exact congrArg _ (funext fun _ => congrArg _ (funext fun _ => congrArg ok (decide_eq_decide.mpr Iff.rfl))))))))
theorem sc__law_parts_text : FnScope N__law_parts_text ["_law_parts"] (defScope s__law_parts_text) := ⟨rfl, rfl, rfl, by decide +kernel, rfl, by decide +kernel, by decide +kernel⟩
theorem fx__law_parts_text (T : Facts K mg) : Fx P w K mg base "_law_parts_text" 3 (.cons (tLst (tRec2 (tRow (tRow tInt)) tInt)) .nil) (dat tStr) (fun t => m__law_parts_text t.1) :=
  fx_ret N__law_parts_text ["_law_parts"] T.d__law_parts_text sc__law_parts_text rfl (fun _ _ _ _ _ _ us hl => match us, hl with | [_], _ => rfl) fun cdv f A outer s H E t => (J_ifrT (B_eq (B_cmp op_eq (cp_eq _) (nomark _) (E_lenL T.n_len (E_bor (E_var 0))) E_int) (by first | with_reducible rfl | (simp only [bind_okS]; done) | (simp only [bind_okS, bind_ret]; done) | (simp only [bind_okS, bind_ret, bind_bind]; done) | exact congrArg _ (funext fun _ => congrArg _ (funext fun _ => congrArg ok (decide_eq_decide.mpr Iff.rfl))))) (J_last (S_retT (E_eq E_str (by first | with_reducible rfl | (simp only [bind_okS]; done) | (simp only [bind_okS, bind_ret]; done) | (simp only [bind_okS, bind_ret, bind_bind]; done) | exact congrArg _ (funext fun _ => congrArg _ (funext fun _ => congrArg ok (decide_eq_decide.mpr Iff.rfl))))))) (J_last (S_retT (E_eq (E_eq (E_join (E_borF (E_comp (C_map (own := [("_law_pair", 1)]) (hok := (by first | (show blkC N__law_parts_text (defScope s__law_parts_text) _ _ = true; decide +kernel) | kernel_rfl)) (I_eq (I_list (E_var 0)) (by first | with_reducible rfl | (simp only [bind_okS]; done) | (simp only [bind_okS, bind_ret]; done) | (simp only [bind_okS, bind_ret, bind_bind]; done) | exact congrArg _ (funext fun _ => congrArg _ (funext fun _ => congrArg ok (decide_eq_decide.mpr Iff.rfl))))) (fun _ _ _ _ _ => (G_name 1)) (fun _ _ _ _ _ pair3 => (E_eq (E_catS (E_catS (E_call (fx__law_table_text T) (Nat.le_of_ble_eq_true rfl) (A_cons (E_fst (E_var 1) E_int) fun _ => A_nil) [] rfl) E_str) (E_strI T.n_str (E_snd (E_var 1) E_int))) (by first | with_reducible rfl | (simp only [bind_okS]; done) | (simp only [bind_okS, bind_ret]; done) | (simp only [bind_okS, bind_ret, bind_bind]; done) | exact congrArg _ (funext fun _ => congrArg _ (funext fun _ => congrArg ok (decide_eq_decide.mpr Iff.rfl)))))))))) (by first | with_reducible rfl | (simp only [bind_okS]; done) | (simp only [bind_okS, bind_ret]; done) | (simp only [bind_okS, bind_ret, bind_bind]; done) | exact congrArg _ (funext fun _ => congrArg _ (funext fun _ => congrArg ok (decide_eq_decide.mpr Iff.rfl))))) (by first | with_reducible rfl | (simp only [bind_okS]; done) | (simp only [bind_okS, bind_ret]; done) | (simp only [bind_okS, bind_ret, bind_bind]; done) | exact congrArg _ (funext fun _ => congrArg _ (funext fun _ => congrArg ok (decide_eq_decide.mpr Iff.rfl))))))))
theorem sc__law_is_parts : FnScope N__law_is_parts ["_law_found", "_law_due"] (defScope s__law_is_parts) := ⟨rfl, rfl, rfl, by decide +kernel, rfl, by decide +kernel, by decide +kernel⟩
theorem fx__law_is_parts (T : Facts K mg) : Fx P w K mg base "_law_is_parts" 4 (.cons (tLst (tRec2 (tRow (tRow tInt)) tInt)) (.cons (tLst (tRec2 (tRow (tRow tInt)) tInt)) .nil)) (dat tBool) (fun t => m__law_is_parts t.1 t.2.1) :=
  fx_ret N__law_is_parts ["_law_found", "_law_due"] T.d__law_is_parts sc__law_is_parts rfl (fun _ _ _ _ _ _ us hl => match us, hl with | [_, _], _ => rfl) fun cdv f A outer s H E t => (J_ifrT (B_eq (B_w (W_or (B_not (B_val (E_isi (C := "list") (r := true) (ty_lst _) (by decide +kernel) T.n_isinstance T.n_list (by decide +kernel) (E_var 0)))) (W_or1 (B_cmp op_ne (cp_ne _) (nomark _) (E_lenL T.n_len (E_bor (E_var 0))) (E_lenL T.n_len (E_bor (E_var 1))))))) (by first | with_reducible rfl | (simp only [bind_okS]; done) | (simp only [bind_okS, bind_ret]; done) | (simp only [bind_okS, bind_ret, bind_bind]; done) | exact congrArg _ (funext fun _ => congrArg _ (funext fun _ => congrArg ok (decide_eq_decide.mpr Iff.rfl))))) (J_last (S_retT (E_eq E_bool (by first | with_reducible rfl | (simp only [bind_okS]; done) | (simp only [bind_okS, bind_ret]; done) | (simp only [bind_okS, bind_ret, bind_bind]; done) | exact congrArg _ (funext fun _ => congrArg _ (funext fun _ => congrArg ok (decide_eq_decide.mpr Iff.rfl))))))) (J_fl (fun a => a) (S_forF (Γl := fun s5 : Unit => [eD 0 (tLst (tRec2 (tRow (tRow tInt)) tInt)) t.1, eD 1 (tLst (tRec2 (tRow (tRow tInt)) tInt)) t.2.1]) [0, 1] () (I_eq (I_list (E_var 0)) (by first | with_reducible rfl | (simp only [bind_okS]; done) | (simp only [bind_okS, bind_ret]; done) | (simp only [bind_okS, bind_ret, bind_bind]; done) | exact congrArg _ (funext fun _ => congrArg _ (funext fun _ => congrArg ok (decide_eq_decide.mpr Iff.rfl))))) (G_name 2) (fun s5 pair6 => (J_ifr (fun a => Fl.rt a) (B_eq (B_w (W_or (B_not (B_val (E_isi (C := "tuple") (r := true) (ty_rec2 _ _) (by decide +kernel) T.n_isinstance T.n_tuple (by decide +kernel) (E_var 2)))) (W_or (B_cmp op_ne (cp_ne _) (nomark _) (E_lenR2 T.n_len (E_var 2)) E_int) (W_or1 (B_not (B_val (E_call (fx__law_whole T) (Nat.le_of_ble_eq_true rfl) (A_cons (E_snd (E_var 2) E_int) fun _ => A_nil) [] rfl))))))) (by first | with_reducible rfl | (simp only [bind_okS]; done) | (simp only [bind_okS, bind_ret]; done) | (simp only [bind_okS, bind_ret, bind_bind]; done) | exact congrArg _ (funext fun _ => congrArg _ (funext fun _ => congrArg ok (decide_eq_decide.mpr Iff.rfl))))) (J_last (S_retT (E_eq E_bool (by first | with_reducible rfl | (simp only [bind_okS]; done) | (simp only [bind_okS, bind_ret]; done) | (simp only [bind_okS, bind_ret, bind_bind]; done) | exact congrArg _ (funext fun _ => congrArg _ (funext fun _ => congrArg ok (decide_eq_decide.mpr Iff.rfl))))))) (J_last (S_if (B_eq (B_w (W_or (B_not (B_val (E_isi (C := "tuple") (r := true) (ty_row _) (by decide +kernel) T.n_isinstance T.n_tuple (by decide +kernel) (E_fst (E_var 2) E_int)))) (W_or1 (B_not (B_val (E_call (fx__law_is_table T) (Nat.le_of_ble_eq_true rfl) (A_cons (E_fst (E_var 2) E_int) fun _ => (A_cons (E_lenT T.n_len (E_fst (E_var 2) E_int)) fun _ => A_nil)) [] rfl)))))) (by first | with_reducible rfl | (simp only [bind_okS]; done) | (simp only [bind_okS, bind_ret]; done) | (simp only [bind_okS, bind_ret, bind_bind]; done) | exact congrArg _ (funext fun _ => congrArg _ (funext fun _ => congrArg ok (decide_eq_decide.mpr Iff.rfl))))) (J_last (S_ret (fun a => Fl.rt a) (E_eq E_bool (by first | with_reducible rfl | (simp only [bind_okS]; done) | (simp only [bind_okS, bind_ret]; done) | (simp only [bind_okS, bind_ret, bind_bind]; done) | exact congrArg _ (funext fun _ => congrArg _ (funext fun _ => congrArg ok (decide_eq_decide.mpr Iff.rfl))))))) (J_nil [0, 1] (Fl.nx ()))))))) fun s16 => (J_last (S_retT (E_eq (E_eqP (eLst (eRec2 (eRow (eRow eInt)) eInt)) (repD_bor (eRec2 (eRow (eRow eInt)) eInt)) (repD_bor (eRec2 (eRow (eRow eInt)) eInt)) (by decide) (E_bor (E_var 0)) (E_bor (E_var 1))) (by first | with_reducible rfl | (simp only [bind_okS]; done) | (simp only [bind_okS, bind_ret]; done) | (simp only [bind_okS, bind_ret, bind_bind]; done) | exact congrArg _ (funext fun _ => congrArg _ (funext fun _ => congrArg ok (decide_eq_decide.mpr Iff.rfl)))))))))
theorem sc__law_wide_table : FnScope N__law_wide_table ["_law_cell_here", "_law_rows", "_law_many", "_law_prime"] (defScope s__law_wide_table) := ⟨rfl, rfl, rfl, by decide +kernel, rfl, by decide +kernel, by decide +kernel⟩
theorem fx__law_wide_table (T : Facts K mg) : Fx P w K mg base "_law_wide_table" 4 (.cons tInt (.cons tInt (.cons tInt (.cons tInt .nil)))) (dat (tRow (tRow tInt))) (fun t => m__law_wide_table t.1 t.2.1 t.2.2.1 t.2.2.2.1) :=
  fx_ret N__law_wide_table ["_law_cell_here", "_law_rows", "_law_many", "_law_prime"] T.d__law_wide_table sc__law_wide_table rfl (fun _ _ _ _ _ _ us hl => match us, hl with | [_, _, _, _], _ => rfl) fun cdv f A outer s H E t => (J_cons (S_set 4 (E_eq (E_call (fx__law_places T) (Nat.le_of_ble_eq_true rfl) (A_cons (E_var 0) fun _ => (A_cons (E_mul (E_var 1) (E_var 2)) fun _ => (A_cons (E_var 3) fun _ => A_nil))) [] rfl) (by first | with_reducible rfl | (simp only [bind_okS]; done) | (simp only [bind_okS, bind_ret]; done) | (simp only [bind_okS, bind_ret, bind_bind]; done) | exact congrArg _ (funext fun _ => congrArg _ (funext fun _ => congrArg ok (decide_eq_decide.mpr Iff.rfl)))))) fun found5 => (J_last (S_retT (E_eq (E_tupleL T.n_tuple (E_borF (E_comp (C_map (own := [("_law_k", 5)]) (hok := (by first | (show blkC N__law_wide_table (defScope s__law_wide_table) _ _ = true; decide +kernel) | kernel_rfl)) (I_eq (I_rangeI T.n_range (E_var 1)) (by first | with_reducible rfl | (simp only [bind_okS]; done) | (simp only [bind_okS, bind_ret]; done) | (simp only [bind_okS, bind_ret, bind_bind]; done) | exact congrArg _ (funext fun _ => congrArg _ (funext fun _ => congrArg ok (decide_eq_decide.mpr Iff.rfl))))) (fun _ _ _ _ _ => (G_name 5)) (fun _ _ _ _ _ k7 => (E_eq (E_slT (E_var 4) (O_some (E_mul (E_var 2) (E_var 5))) (O_some (E_add (E_mul (E_var 2) (E_var 5)) (E_var 2)))) (by first | with_reducible rfl | (simp only [bind_okS]; done) | (simp only [bind_okS, bind_ret]; done) | (simp only [bind_okS, bind_ret, bind_bind]; done) | exact congrArg _ (funext fun _ => congrArg _ (funext fun _ => congrArg ok (decide_eq_decide.mpr Iff.rfl)))))))))) (by first | with_reducible rfl | (simp only [bind_okS]; done) | (simp only [bind_okS, bind_ret]; done) | (simp only [bind_okS, bind_ret, bind_bind]; done) | exact congrArg _ (funext fun _ => congrArg _ (funext fun _ => congrArg ok (decide_eq_decide.mpr Iff.rfl))))))))
theorem sc_law : FnScope N_law ["_law_script"] (defScope s_law) := ⟨rfl, rfl, rfl, by decide +kernel, rfl, by decide +kernel, by decide +kernel⟩
theorem ok_law (T : Facts K mg) {f : Addr} {fd : FuncData} (F : Fun K "law" "law" s_law f fd) : FnOk P w K mg base (L2.CX P w) 6 f fd ["_law_script"] (spT K mg (.cons tScr .nil) (dat tBool) (fun t => m_law t.1)) :=
  fn_ret F sc_law rfl fun cdv A outer s H E t => (J_cons (S_set 1 (E_eq (E_frz (E_call (fx__law_draws T) (Nat.le_of_ble_eq_true rfl) (A_cons (E_call (fx__law_cell T) (Nat.le_of_ble_eq_true rfl) (A_cons (E_var 0) fun _ => (A_cons E_int fun _ => A_nil)) [] rfl) fun _ => (A_cons (E_frz (E_eq (E_lst (I_cons E_int fun _ => (I_cons E_int fun _ => (I_cons E_int fun _ => I_nil)))) (psz_w (xs := [8, 8, 30]) rfl))) fun _ => (A_cons E_int fun _ => A_nil))) [] rfl)) (by first | with_reducible rfl | (simp only [bind_okS]; done) | (simp only [bind_okS, bind_ret]; done) | (simp only [bind_okS, bind_ret, bind_bind]; done) | exact congrArg _ (funext fun _ => congrArg _ (funext fun _ => congrArg ok (decide_eq_decide.mpr Iff.rfl)))))) fun deep2 => (J_cons (S_set 2 (E_eq (E_add E_int (E_ixL (E_bor (E_var 1)) E_int)) (by first | with_reducible rfl | (simp only [bind_okS]; done) | (simp only [bind_okS, bind_ret]; done) | (simp only [bind_okS, bind_ret, bind_bind]; done) | exact congrArg _ (funext fun _ => congrArg _ (funext fun _ => congrArg ok (decide_eq_decide.mpr Iff.rfl)))))) fun many4 => (J_cons (Γ1 := fun many10 : Int => [eD 0 tScr t.1, eD 2 tInt many10]) (S_if (B_eq (B_cmp op_eq (cp_eq _) (nomark _) (E_ixL (E_bor (E_var 1)) E_int) E_int) (by first | with_reducible rfl | (simp only [bind_okS]; done) | (simp only [bind_okS, bind_ret]; done) | (simp only [bind_okS, bind_ret, bind_bind]; done) | exact congrArg _ (funext fun _ => congrArg _ (funext fun _ => congrArg ok (decide_eq_decide.mpr Iff.rfl))))) (J_cons (S_set 2 (E_eq (E_add E_int (E_ixL (E_bor (E_var 1)) E_int)) (by first | with_reducible rfl | (simp only [bind_okS]; done) | (simp only [bind_okS, bind_ret]; done) | (simp only [bind_okS, bind_ret, bind_bind]; done) | exact congrArg _ (funext fun _ => congrArg _ (funext fun _ => congrArg ok (decide_eq_decide.mpr Iff.rfl)))))) fun many8 => (J_nil [0, 2] (many8))) (J_nil [0, 2] (many4))) fun many10 => (J_cons (S_set 3 (E_eq (E_call (fx__law_places T) (Nat.le_of_ble_eq_true rfl) (A_cons (E_call (fx__law_cell T) (Nat.le_of_ble_eq_true rfl) (A_cons (E_var 0) fun _ => (A_cons E_int fun _ => A_nil)) [] rfl) fun _ => (A_cons (E_var 2) fun _ => (A_cons E_int fun _ => A_nil))) [] rfl) (by first | with_reducible rfl | (simp only [bind_okS]; done) | (simp only [bind_okS, bind_ret]; done) | (simp only [bind_okS, bind_ret, bind_bind]; done) | exact congrArg _ (funext fun _ => congrArg _ (funext fun _ => congrArg ok (decide_eq_decide.mpr Iff.rfl)))))) fun row_here11 => (J_cons (S_set 4 (E_eq (E_call (fx__law_row_text T) (Nat.le_of_ble_eq_true rfl) (A_cons (E_var 3) fun _ => A_nil) [] rfl) (by first | with_reducible rfl | (simp only [bind_okS]; done) | (simp only [bind_okS, bind_ret]; done) | (simp only [bind_okS, bind_ret, bind_bind]; done) | exact congrArg _ (funext fun _ => congrArg _ (funext fun _ => congrArg ok (decide_eq_decide.mpr Iff.rfl)))))) fun text13 => (J_ifrT (B_eq (B_w (W_or (B_neP eStr (repD_dat eStr) (repD_dat eStr) (by decide) (E_call (fx_shown_row T) (Nat.le_of_ble_eq_true rfl) (A_cons (E_var 3) fun _ => A_nil) [] rfl) (E_var 4)) (W_or (B_not (B_val (E_call (fx__law_row T) (Nat.le_of_ble_eq_true rfl) (A_cons (E_call (fx_read_row T) (Nat.le_of_ble_eq_true rfl) (A_cons (E_var 4) fun _ => A_nil) [] rfl) fun _ => (A_cons (E_var 2) fun _ => A_nil)) [] rfl))) (W_or1 (B_neP (eRow eInt) (repD_dat (eRow eInt)) (repD_dat (eRow eInt)) (by decide) (E_call (fx_read_row T) (Nat.le_of_ble_eq_true rfl) (A_cons (E_var 4) fun _ => A_nil) [] rfl) (E_var 3)))))) (by first | with_reducible rfl | (simp only [bind_okS]; done) | (simp only [bind_okS, bind_ret]; done) | (simp only [bind_okS, bind_ret, bind_bind]; done) | exact congrArg _ (funext fun _ => congrArg _ (funext fun _ => congrArg ok (decide_eq_decide.mpr Iff.rfl))))) (J_last (S_retT (E_eq E_bool (by first | with_reducible rfl | (simp only [bind_okS]; done) | (simp only [bind_okS, bind_ret]; done) | (simp only [bind_okS, bind_ret, bind_bind]; done) | exact congrArg _ (funext fun _ => congrArg _ (funext fun _ => congrArg ok (decide_eq_decide.mpr Iff.rfl))))))) (J_cons (S_set 1 (E_eq (E_frz (E_call (fx__law_draws T) (Nat.le_of_ble_eq_true rfl) (A_cons (E_call (fx__law_cell T) (Nat.le_of_ble_eq_true rfl) (A_cons (E_var 0) fun _ => (A_cons E_int fun _ => A_nil)) [] rfl) fun _ => (A_cons (E_frz (E_eq (E_lst (I_cons E_int fun _ => (I_cons E_int fun _ => (I_cons E_int fun _ => I_nil)))) (psz_w (xs := [4, 8, 5]) rfl))) fun _ => (A_cons E_int fun _ => A_nil))) [] rfl)) (by first | with_reducible rfl | (simp only [bind_okS]; done) | (simp only [bind_okS, bind_ret]; done) | (simp only [bind_okS, bind_ret, bind_bind]; done) | exact congrArg _ (funext fun _ => congrArg _ (funext fun _ => congrArg ok (decide_eq_decide.mpr Iff.rfl)))))) fun deep21 => (J_cons (S_set 2 (E_eq (E_add E_int (E_ixL (E_bor (E_var 1)) E_int)) (by first | with_reducible rfl | (simp only [bind_okS]; done) | (simp only [bind_okS, bind_ret]; done) | (simp only [bind_okS, bind_ret, bind_bind]; done) | exact congrArg _ (funext fun _ => congrArg _ (funext fun _ => congrArg ok (decide_eq_decide.mpr Iff.rfl)))))) fun many23 => (J_cons (Γ1 := fun many29 : Int => [eD 0 tScr t.1, eD 2 tInt many29]) (S_if (B_eq (B_cmp op_eq (cp_eq _) (nomark _) (E_ixL (E_bor (E_var 1)) E_int) E_int) (by first | with_reducible rfl | (simp only [bind_okS]; done) | (simp only [bind_okS, bind_ret]; done) | (simp only [bind_okS, bind_ret, bind_bind]; done) | exact congrArg _ (funext fun _ => congrArg _ (funext fun _ => congrArg ok (decide_eq_decide.mpr Iff.rfl))))) (J_cons (S_set 2 (E_eq (E_add E_int (E_ixL (E_bor (E_var 1)) E_int)) (by first | with_reducible rfl | (simp only [bind_okS]; done) | (simp only [bind_okS, bind_ret]; done) | (simp only [bind_okS, bind_ret, bind_bind]; done) | exact congrArg _ (funext fun _ => congrArg _ (funext fun _ => congrArg ok (decide_eq_decide.mpr Iff.rfl)))))) fun many27 => (J_nil [0, 2] (many27))) (J_nil [0, 2] (many23))) fun many29 => (J_cons (S_set 5 (E_eq (E_call (fx__law_square_table T) (Nat.le_of_ble_eq_true rfl) (A_cons (E_call (fx__law_cell T) (Nat.le_of_ble_eq_true rfl) (A_cons (E_var 0) fun _ => (A_cons E_int fun _ => A_nil)) [] rfl) fun _ => (A_cons (E_var 2) fun _ => (A_cons E_int fun _ => A_nil))) [] rfl) (by first | with_reducible rfl | (simp only [bind_okS]; done) | (simp only [bind_okS, bind_ret]; done) | (simp only [bind_okS, bind_ret, bind_bind]; done) | exact congrArg _ (funext fun _ => congrArg _ (funext fun _ => congrArg ok (decide_eq_decide.mpr Iff.rfl)))))) fun table30 => (J_cons (S_set 4 (E_eq (E_call (fx__law_table_text T) (Nat.le_of_ble_eq_true rfl) (A_cons (E_var 5) fun _ => A_nil) [] rfl) (by first | with_reducible rfl | (simp only [bind_okS]; done) | (simp only [bind_okS, bind_ret]; done) | (simp only [bind_okS, bind_ret, bind_bind]; done) | exact congrArg _ (funext fun _ => congrArg _ (funext fun _ => congrArg ok (decide_eq_decide.mpr Iff.rfl)))))) fun text32 => (J_ifrT (B_eq (B_w (W_or (B_neP eStr (repD_dat eStr) (repD_dat eStr) (by decide) (E_call (fx_shown_table T) (Nat.le_of_ble_eq_true rfl) (A_cons (E_var 5) fun _ => A_nil) [] rfl) (E_var 4)) (W_or (B_not (B_val (E_call (fx__law_is_table T) (Nat.le_of_ble_eq_true rfl) (A_cons (E_call (fx_read_table T) (Nat.le_of_ble_eq_true rfl) (A_cons (E_var 4) fun _ => A_nil) [] rfl) fun _ => (A_cons (E_var 2) fun _ => A_nil)) [] rfl))) (W_or1 (B_neP (eRow (eRow eInt)) (repD_dat (eRow (eRow eInt))) (repD_dat (eRow (eRow eInt))) (by decide) (E_call (fx_read_table T) (Nat.le_of_ble_eq_true rfl) (A_cons (E_var 4) fun _ => A_nil) [] rfl) (E_var 5)))))) (by first | with_reducible rfl | (simp only [bind_okS]; done) | (simp only [bind_okS, bind_ret]; done) | (simp only [bind_okS, bind_ret, bind_bind]; done) | exact congrArg _ (funext fun _ => congrArg _ (funext fun _ => congrArg ok (decide_eq_decide.mpr Iff.rfl))))) (J_last (S_retT (E_eq E_bool (by first | with_reducible rfl | (simp only [bind_okS]; done) | (simp only [bind_okS, bind_ret]; done) | (simp only [bind_okS, bind_ret, bind_bind]; done) | exact congrArg _ (funext fun _ => congrArg _ (funext fun _ => congrArg ok (decide_eq_decide.mpr Iff.rfl))))))) (J_cons (S_set 6 (E_eq (E_frz (E_call (fx__law_few_parts T) (Nat.le_of_ble_eq_true rfl) (A_cons (E_var 0) fun _ => (A_cons E_int fun _ => (A_cons E_int fun _ => A_nil))) [] rfl)) (by first | with_reducible rfl | (simp only [bind_okS]; done) | (simp only [bind_okS, bind_ret]; done) | (simp only [bind_okS, bind_ret, bind_bind]; done) | exact congrArg _ (funext fun _ => congrArg _ (funext fun _ => congrArg ok (decide_eq_decide.mpr Iff.rfl)))))) fun parts40 => (J_cons (S_set 4 (E_eq (E_call (fx__law_parts_text T) (Nat.le_of_ble_eq_true rfl) (A_cons (E_var 6) fun _ => A_nil) [] rfl) (by first | with_reducible rfl | (simp only [bind_okS]; done) | (simp only [bind_okS, bind_ret]; done) | (simp only [bind_okS, bind_ret, bind_bind]; done) | exact congrArg _ (funext fun _ => congrArg _ (funext fun _ => congrArg ok (decide_eq_decide.mpr Iff.rfl)))))) fun text41 => (J_cons (S_set 7 (E_eq (E_frz (E_listL T.n_list (E_bor (E_var 6)))) (by first | with_reducible rfl | (simp only [bind_okS]; done) | (simp only [bind_okS, bind_ret]; done) | (simp only [bind_okS, bind_ret, bind_bind]; done) | exact congrArg _ (funext fun _ => congrArg _ (funext fun _ => congrArg ok (decide_eq_decide.mpr Iff.rfl)))))) fun handed42 => (J_ifrT (B_eq (B_w (W_or (B_neP eStr (repD_dat eStr) (repD_dat eStr) (by decide) (E_call (fx_shown_parts T) (Nat.le_of_ble_eq_true rfl) (A_cons (E_var 7) fun _ => A_nil) [] rfl) (E_var 4)) (W_or1 (B_neP (eLst (eRec2 (eRow (eRow eInt)) eInt)) (repD_bor (eRec2 (eRow (eRow eInt)) eInt)) (repD_bor (eRec2 (eRow (eRow eInt)) eInt)) (by decide) (E_bor (E_var 7)) (E_bor (E_var 6)))))) (by first | with_reducible rfl | (simp only [bind_okS]; done) | (simp only [bind_okS, bind_ret]; done) | (simp only [bind_okS, bind_ret, bind_bind]; done) | exact congrArg _ (funext fun _ => congrArg _ (funext fun _ => congrArg ok (decide_eq_decide.mpr Iff.rfl))))) (J_last (S_retT (E_eq E_bool (by first | with_reducible rfl | (simp only [bind_okS]; done) | (simp only [bind_okS, bind_ret]; done) | (simp only [bind_okS, bind_ret, bind_bind]; done) | exact congrArg _ (funext fun _ => congrArg _ (funext fun _ => congrArg ok (decide_eq_decide.mpr Iff.rfl))))))) (J_cons (S_setO 8 (E_eq (E_call (fx_read_parts T) (Nat.le_of_ble_eq_true rfl) (A_cons (E_var 4) fun _ => A_nil) [] rfl) (by first | with_reducible rfl | (simp only [bind_okS]; done) | (simp only [bind_okS, bind_ret]; done) | (simp only [bind_okS, bind_ret, bind_bind]; done) | exact congrArg _ (funext fun _ => congrArg _ (funext fun _ => congrArg ok (decide_eq_decide.mpr Iff.rfl)))))) fun told46 => (J_ifrT (B_eq (B_not (B_val (E_lend 8 rfl flat_bool (E_call (fx__law_is_parts T) (Nat.le_of_ble_eq_true rfl) (A_cons (E_var 8) fun _ => (A_cons (E_var 6) fun _ => A_nil)) [] rfl)))) (by first | with_reducible rfl | (simp only [bind_okS]; done) | (simp only [bind_okS, bind_ret]; done) | (simp only [bind_okS, bind_ret, bind_bind]; done) | exact congrArg _ (funext fun _ => congrArg _ (funext fun _ => congrArg ok (decide_eq_decide.mpr Iff.rfl))))) (J_last (S_retT (E_eq E_bool (by first | with_reducible rfl | (simp only [bind_okS]; done) | (simp only [bind_okS, bind_ret]; done) | (simp only [bind_okS, bind_ret, bind_bind]; done) | exact congrArg _ (funext fun _ => congrArg _ (funext fun _ => congrArg ok (decide_eq_decide.mpr Iff.rfl))))))) (J_any 8 rfl (J_cons (S_eq (S_append 8 (E_anyV E_int)) (by first | with_reducible rfl | (simp only [bind_okS]; done) | (simp only [bind_okS, bind_ret]; done) | (simp only [bind_okS, bind_ret, bind_bind]; done) | exact congrArg _ (funext fun _ => congrArg _ (funext fun _ => congrArg ok (decide_eq_decide.mpr Iff.rfl))))) fun told49 => (J_ifrT (B_eq (B_not (B_val (E_call (fx__law_is_parts T) (Nat.le_of_ble_eq_true rfl) (A_cons (E_frz (E_call (fx_read_parts T) (Nat.le_of_ble_eq_true rfl) (A_cons (E_var 4) fun _ => A_nil) [] rfl)) fun _ => (A_cons (E_var 6) fun _ => A_nil)) [] rfl))) (by first | with_reducible rfl | (simp only [bind_okS]; done) | (simp only [bind_okS, bind_ret]; done) | (simp only [bind_okS, bind_ret, bind_bind]; done) | exact congrArg _ (funext fun _ => congrArg _ (funext fun _ => congrArg ok (decide_eq_decide.mpr Iff.rfl))))) (J_last (S_retT (E_eq E_bool (by first | with_reducible rfl | (simp only [bind_okS]; done) | (simp only [bind_okS, bind_ret]; done) | (simp only [bind_okS, bind_ret, bind_bind]; done) | exact congrArg _ (funext fun _ => congrArg _ (funext fun _ => congrArg ok (decide_eq_decide.mpr Iff.rfl))))))) (J_cons (S_set 1 (E_eq (E_frz (E_call (fx__law_draws T) (Nat.le_of_ble_eq_true rfl) (A_cons (E_call (fx__law_cell T) (Nat.le_of_ble_eq_true rfl) (A_cons (E_var 0) fun _ => (A_cons E_int fun _ => A_nil)) [] rfl) fun _ => (A_cons (E_frz (E_eq (E_lst (I_cons E_int fun _ => (I_cons E_int fun _ => (I_cons E_int fun _ => (I_cons E_int fun _ => I_nil))))) (psz_w (xs := [4, 6, 4, 6]) rfl))) fun _ => (A_cons E_int fun _ => A_nil))) [] rfl)) (by first | with_reducible rfl | (simp only [bind_okS]; done) | (simp only [bind_okS, bind_ret]; done) | (simp only [bind_okS, bind_ret, bind_bind]; done) | exact congrArg _ (funext fun _ => congrArg _ (funext fun _ => congrArg ok (decide_eq_decide.mpr Iff.rfl)))))) fun deep53 => (J_cons (S_set 9 (E_eq (E_call (fx__law_wide_table T) (Nat.le_of_ble_eq_true rfl) (A_cons (E_call (fx__law_cell T) (Nat.le_of_ble_eq_true rfl) (A_cons (E_var 0) fun _ => (A_cons E_int fun _ => A_nil)) [] rfl) fun _ => (A_cons (E_add E_int (E_ixL (E_bor (E_var 1)) E_int)) fun _ => (A_cons (E_add E_int (E_ixL (E_bor (E_var 1)) E_int)) fun _ => (A_cons E_int fun _ => A_nil)))) [] rfl) (by first | with_reducible rfl | (simp only [bind_okS]; done) | (simp only [bind_okS, bind_ret]; done) | (simp only [bind_okS, bind_ret, bind_bind]; done) | exact congrArg _ (funext fun _ => congrArg _ (funext fun _ => congrArg ok (decide_eq_decide.mpr Iff.rfl)))))) fun one55 => (J_cons (S_set 10 (E_eq (E_call (fx__law_wide_table T) (Nat.le_of_ble_eq_true rfl) (A_cons (E_call (fx__law_cell T) (Nat.le_of_ble_eq_true rfl) (A_cons (E_var 0) fun _ => (A_cons E_int fun _ => A_nil)) [] rfl) fun _ => (A_cons (E_add E_int (E_ixL (E_bor (E_var 1)) E_int)) fun _ => (A_cons (E_add E_int (E_ixL (E_bor (E_var 1)) E_int)) fun _ => (A_cons E_int fun _ => A_nil)))) [] rfl) (by first | with_reducible rfl | (simp only [bind_okS]; done) | (simp only [bind_okS, bind_ret]; done) | (simp only [bind_okS, bind_ret, bind_bind]; done) | exact congrArg _ (funext fun _ => congrArg _ (funext fun _ => congrArg ok (decide_eq_decide.mpr Iff.rfl)))))) fun two61 => (J_cons (S_set 11 (E_eq (E_frz (E_lst (I_cons (E_rec2 (A_cons (E_var 9) fun _ => (A_cons (E_add E_int (E_ixL (E_bor (E_var 1)) E_int)) fun _ => A_nil))) fun _ => (I_cons (E_rec2 (A_cons (E_var 10) fun _ => (A_cons (E_powK (c := 100000000000000000000) 20 (by decide) (by decide) (by decide +kernel) E_int E_int) fun _ => A_nil))) fun _ => I_nil)))) (by first | with_reducible rfl | (simp only [bind_okS]; done) | (simp only [bind_okS, bind_ret]; done) | (simp only [bind_okS, bind_ret, bind_bind]; done) | exact congrArg _ (funext fun _ => congrArg _ (funext fun _ => congrArg ok (decide_eq_decide.mpr Iff.rfl)))))) fun pairs67 => (J_ifrT (B_eq (B_w (W_or (B_neP eStr (repD_dat eStr) (repD_dat eStr) (by decide) (E_call (fx_shown_table T) (Nat.le_of_ble_eq_true rfl) (A_cons (E_var 9) fun _ => A_nil) [] rfl) (E_call (fx__law_table_text T) (Nat.le_of_ble_eq_true rfl) (A_cons (E_var 9) fun _ => A_nil) [] rfl)) (W_or1 (B_neP eStr (repD_dat eStr) (repD_dat eStr) (by decide) (E_call (fx_shown_table T) (Nat.le_of_ble_eq_true rfl) (A_cons (E_var 10) fun _ => A_nil) [] rfl) (E_call (fx__law_table_text T) (Nat.le_of_ble_eq_true rfl) (A_cons (E_var 10) fun _ => A_nil) [] rfl))))) (by first | with_reducible rfl | (simp only [bind_okS]; done) | (simp only [bind_okS, bind_ret]; done) | (simp only [bind_okS, bind_ret, bind_bind]; done) | exact congrArg _ (funext fun _ => congrArg _ (funext fun _ => congrArg ok (decide_eq_decide.mpr Iff.rfl))))) (J_last (S_retT (E_eq E_bool (by first | with_reducible rfl | (simp only [bind_okS]; done) | (simp only [bind_okS, bind_ret]; done) | (simp only [bind_okS, bind_ret, bind_bind]; done) | exact congrArg _ (funext fun _ => congrArg _ (funext fun _ => congrArg ok (decide_eq_decide.mpr Iff.rfl))))))) (J_last (S_retT (E_eq (E_eqP eStr (repD_dat eStr) (repD_dat eStr) (by decide) (E_call (fx_shown_parts T) (Nat.le_of_ble_eq_true rfl) (A_cons (E_frz (E_listL T.n_list (E_bor (E_var 11)))) fun _ => A_nil) [] rfl) (E_call (fx__law_parts_text T) (Nat.le_of_ble_eq_true rfl) (A_cons (E_var 11) fun _ => A_nil) [] rfl)) (by first | with_reducible rfl | (simp only [bind_okS]; done) | (simp only [bind_okS, bind_ret]; done) | (simp only [bind_okS, bind_ret, bind_bind]; done) | exact congrArg _ (funext fun _ => congrArg _ (funext fun _ => congrArg ok (decide_eq_decide.mpr Iff.rfl)))))))))))))))))))))))))))))))))
end
end K86Law
set_option maxRecDepth 100000
set_option maxHeartbeats 4000000
namespace K86Law
open PySem PySem.Spec PyProof.Rows L2 T TL
theorem e_cell : m__law_cell = m_cell := rfl
theorem e_draws : m__law_draws = m_draws := rfl
theorem e_row : m__law_row_text = m_shown_row := rfl
theorem e_table : m__law_table_text = m_shown_table := by
  funext t
  unfold m__law_table_text m_shown_table
  rfl
theorem e_parts : m__law_parts_text = m_shown_parts := by
  funext t
  unfold m__law_parts_text m_shown_parts
  rfl
theorem loopF_nx {α ρ : Type} {f : Unit → α → M (Fl Unit ρ)} : ∀ (xs : List α), (∀ x ∈ xs, f () x = ok (Fl.nx ())) → loopF f () xs = ok (Fl.nx ())
  | [], _ => rfl
  | x :: xs, h => by
    show (f () x).bind _ = _
    rw [h x List.mem_cons_self, bind_ok]
    exact loopF_nx xs fun y hy => h y (List.mem_cons_of_mem _ hy)
theorem loopM_un {α : Type} {f : Unit → α → M Unit} : ∀ (xs : List α), (∀ x ∈ xs, f () x = ok ()) → loopM f () xs = ok ()
  | [], _ => loopM_nil ..
  | x :: xs, h => by
    rw [loopM_cons, h x List.mem_cons_self, bind_ok]
    exact loopM_un xs fun y hy => h y (List.mem_cons_of_mem _ hy)
theorem sq_nx {C ρ θ : Type} (c : C) (k : C → M θ) (ι : ρ → θ) : sq (ok (Fl.nx c)) k ι = k c := rfl
/-- a number that can be read -/
def Nm (n : Int) : Prop := n.natAbs < 10 ^ 60
theorem p60 : (10 : Nat) ^ 60 = 1000000000000000000000000000000000000000000000000000000000000 := by decide
theorem Nm.log {n : Int} (h : Nm n) : n.natAbs.log2 < 1920 := by
  have h : n.natAbs < 10 ^ 60 := h
  rw [p60] at h
  have := log2_le (Nat.le_of_lt h)
  have e : Nat.log2 1000000000000000000000000000000000000000000000000000000000000 = 199 := by decide +kernel
  omega
theorem Nm.len {n : Int} (h : Nm n) : (numT n).length ≤ 61 := numT_len (by decide) h
theorem fig_in {c : Nat} (h : 48 ≤ c ∧ c ≤ 57) : inS ⟨#[c]⟩ c_FIGURES = true := by
  have := dig_in (c - 48) (by omega)
  rwa [show 48 + (c - 48) = c by omega] at this
theorem isnum_ok {n : Int} (h : Nm n) : m_is_number (numT n) = ok true := by
  have hlen := h.len
  have hl : (numT n).length ≤ 16777216 := by omega
  have et := tl_numT n
  unfold m_is_number
  rw [bind_ok, cutT_to1 hl, bind_ok, bind_ok]
  have fig : (if decide ((⟨((tl (numT n)).take 1).toArray⟩ : Str) = ("-" : Str)) = true then (M.bind (cutT (numT n) (some 1) none) fun figures5 => ok (figures5)) else ok (numT n)) = ok (⟨(numL n.natAbs).toArray⟩ : Str) := by
    by_cases c : n < 0
    · rw [if_pos c] at et
      rw [if_pos (by rw [et]; rfl), cutT_from1 hl, bind_ok, et]
      rfl
    · rw [if_neg c, List.nil_append] at et
      rw [if_neg, ← et, mk_tl]
      intro z
      have z : (⟨((tl (numT n)).take 1).toArray⟩ : Str) = ("-" : Str) := by simpa using z
      have e : (tl (numT n)).take 1 = [45] := congrArg tl z
      have : (45 : Nat) ∈ (tl (numT n)) := List.mem_of_mem_take (i := 1) (by rw [e]; simp)
      rw [et] at this
      have := numL_dig this
      omega
  rw [fig, bind_ok]
  have hne := numL_ne n.natAbs
  have hll : (numL n.natAbs).length ≤ 60 := numL_len (by decide) h
  rw [bind_ok, if_neg (by
    intro z
    have z : (⟨(numL n.natAbs).toArray⟩ : Str) = ("" : Str) := by simpa using z
    exact hne (congrArg tl z)), show plenS ⟨(numL n.natAbs).toArray⟩ = ok (((numL n.natAbs).length : Nat) : Int) from grd_pos (by rw [len_tl]; show (numL n.natAbs).length ≤ _; omega) _, bind_ok, bind_ok, if_neg (by unfold c_MOST; simp; omega), bind_ok]
  rw [loopF_nx _ fun sg hs => by
    obtain ⟨c, hc, rfl⟩ := List.mem_map.mp hs
    rw [bind_ok, fig_in (numL_dig hc), if_neg (by decide)]]
  rw [sq_nx]
  rw [bind_ok]
  by_cases c0 : n = 0
  · subst c0
    rw [if_pos (by decide)]
  · rw [if_neg (by
      intro z
      have z : numT n = ("0" : Str) := by simpa using z
      have e : tl (numT n) = [48] := congrArg tl z
      rw [et] at e
      obtain ⟨c, r, e1, h1⟩ := numL_pos (n := n.natAbs) (by omega)
      rw [e1] at e
      by_cases c : n < 0
      · rw [if_pos c] at e
        simp at e
      · rw [if_neg c] at e
        simp at e
        exact h1 e.1)]
    obtain ⟨c, r, e1, h1⟩ := numL_pos (n := n.natAbs) (by omega)
    rw [show pgetS ⟨(numL n.natAbs).toArray⟩ 0 = ok ⟨#[c]⟩ from by
      unfold pgetS
      rw [show (⟨(numL n.natAbs).toArray⟩ : Str).cps.toList = c :: r from e1, show atI (c :: r) (0 : Int) = some c from by rw [show (0 : Int) = ((0 : Nat) : Int) from rfl, atI_nat (xs := c :: r) (j := 0) (v := c) rfl]]
      exact grd_pos (show (⟨(numL n.natAbs).toArray⟩ : Str).length ≤ 16777216 by rw [len_tl]; show (numL n.natAbs).length ≤ _; omega) _, bind_ok]
    congr 1
    have : ¬ ((⟨#[c]⟩ : Str) = ("0" : Str)) := fun z => by
      have e : [c] = [48] := congrArg tl z
      exact h1 (List.cons.inj e).1
    rw [decide_eq_false this]
    rfl
theorem readnum_ok {n : Int} (h : Nm n) : m_read_number (numT n) = ok n := by
  unfold m_read_number
  rw [isnum_ok h, bind_ok, bind_ok, if_neg (by decide), int_numT (k := 60) (by decide) (by decide) h]
/-- a row that can be told -/
def Rm (row : List Int) : Prop := row ≠ [] ∧ row.length ≤ 100 ∧ ∀ n ∈ row, Nm n
theorem Rm.len {row : List Int} (h : Rm row) : (rowT row).length ≤ 6200 := by
  have := Tjoin_len (y := " ") (L := 61) (parts := row.map numT) fun p hp => by
    obtain ⟨n, hn, rfl⟩ := List.mem_map.mp hp
    exact (h.2.2 n hn).len
  rw [List.length_map, show (" " : Str).length = 1 from rfl] at this
  have := Nat.mul_le_mul_right (61 + 1) h.2.1
  unfold rowT
  omega
theorem shrow_ok {row : List Int} (h : Rm row) : m_shown_row row = ok (rowT row) := by
  unfold m_shown_row
  rw [mapC_ok (g := numT) (fun n hn => pstr_ok (h.2.2 n hn).log) (by rw [sizeLineE]; have := h.2.1; omega), bind_ok]
  exact pjoin_ok (L := 61) (fun p hp => by
    obtain ⟨n, hn, rfl⟩ := List.mem_map.mp hp
    exact (h.2.2 n hn).len) (by rw [List.length_map, show (" " : Str).length = 1 from rfl]; have := Nat.mul_le_mul_right (61 + 1) h.2.1; omega)
theorem rdrow_ok {row : List Int} (h : Rm row) : m_read_row (rowT row) = ok row := by
  have hl := h.len
  unfold m_read_row
  rw [show psplit (rowT row) " " = ok (row.map numT) from by
    unfold psplit
    rw [grd_pos ⟨by decide, by omega⟩]
    congr 1
    exact split_join (s := 32) (S := []) rfl (by decide +kernel) (fun z => h.1 (List.map_eq_nil_iff.mp z)) fun p hp => by
      obtain ⟨n, hn, rfl⟩ := List.mem_map.mp hp
      intro z
      have := numT_dig z
      omega, bind_ok, mapC_ok (g := fun s => (intText? s).getD 0) (fun s hs => by
    obtain ⟨n, hn, rfl⟩ := List.mem_map.mp hs
    have e := int_numT (k := 60) (by decide) (by decide) (h.2.2 n hn)
    rw [readnum_ok (h.2.2 n hn)]
    congr 1
    unfold pintS at e
    cases q : intText? (numT n) with
    | none => rw [q] at e; cases e
    | some m =>
      rw [q] at e
      obtain ⟨_, e2⟩ := grd_ok e
      cases e2
      rfl) (by rw [sizeLineE, List.length_map]; have := h.2.1; omega), List.map_map]
  congr 1
  conv => rhs; rw [← List.map_id row]
  refine List.map_congr_left fun n hn => ?_
  have e := int_numT (k := 60) (by decide) (by decide) (h.2.2 n hn)
  show (intText? (numT n)).getD 0 = n
  unfold pintS at e
  cases q : intText? (numT n) with
  | none => rw [q] at e; cases e
  | some m =>
    rw [q] at e
    obtain ⟨_, e2⟩ := grd_ok e
    cases e2
    rfl
/-- a table that can be told -/
def Tm (t : List (List Int)) : Prop := t ≠ [] ∧ t.length ≤ 20 ∧ ∀ row ∈ t, Rm row
theorem Tm.len {t : List (List Int)} (h : Tm t) : (tabT t).length ≤ 124060 := by
  have := Tjoin_len (y := " / ") (L := 6200) (parts := t.map rowT) fun p hp => by
    obtain ⟨n, hn, rfl⟩ := List.mem_map.mp hp
    exact (h.2.2 n hn).len
  rw [List.length_map, show (" / " : Str).length = 3 from rfl] at this
  have := Nat.mul_le_mul_right (6200 + 3) h.2.1
  unfold tabT
  omega
theorem shtab_ok {t : List (List Int)} (h : Tm t) : m_shown_table t = ok (tabT t) := by
  unfold m_shown_table
  rw [mapC_ok (g := rowT) (fun row hr => shrow_ok (h.2.2 row hr)) (by rw [sizeLineE]; have := h.2.1; omega), bind_ok]
  exact pjoin_ok (L := 6200) (fun p hp => by
    obtain ⟨n, hn, rfl⟩ := List.mem_map.mp hp
    exact (h.2.2 n hn).len) (by rw [List.length_map, show (" / " : Str).length = 3 from rfl]; have := Nat.mul_le_mul_right (6200 + 3) h.2.1; omega)
theorem mapC_map {α β γ : Type} {f : β → M γ} {g : α → β} (l : List α) : mapC f (l.map g) = mapC (fun x => f (g x)) l := by
  have key : ∀ l : List α, compG (fun _ => ok true) f (l.map g) = compG (fun _ => ok true) (fun x => f (g x)) l := fun l => by
    induction l with
    | nil => rfl
    | cons x l ih =>
      rw [List.map_cons]
      show M.bind _ _ = M.bind _ _
      rw [ih]
  unfold mapC compL
  rw [key]
theorem mapC_back {α : Type} {f : Str → M α} {g : α → Str} {l : List α} (h : ∀ x ∈ l, f (g x) = ok x) (hl : l.length ≤ 16777216) : mapC f (l.map g) = ok l := by
  rw [mapC_map, mapC_ok (g := fun x => x) h (by rw [sizeLineE]; exact hl), List.map_id']
theorem rdtab_ok {t : List (List Int)} (h : Tm t) (sq : ∀ row ∈ t, row.length = t.length) : m_read_table (tabT t) = ok t := by
  have hl := h.len
  unfold m_read_table
  rw [show psplit (tabT t) " / " = ok (t.map rowT) from by
    unfold psplit
    rw [grd_pos ⟨by decide, by omega⟩]
    congr 1
    exact split_join3 (c := 47) rfl (by decide) (by decide +kernel) (fun z => h.1 (List.map_eq_nil_iff.mp z)) fun p hp => by
      obtain ⟨n, hn, rfl⟩ := List.mem_map.mp hp
      intro z
      have := rowT_ch z
      omega, bind_ok, mapC_back (g := rowT) (fun row hr => rdrow_ok (h.2.2 row hr)) (by have := h.2.1; omega), bind_ok, bind_ok, loopM_un _ fun row hr => by
    rw [bind_ok, if_neg (by have := sq row hr; simp; omega)], bind_ok]
/-- a part that can be told -/
def Pm (x : List (List Int) × Int) : Prop := Tm x.1 ∧ Nm x.2
theorem Pm.len {x : List (List Int) × Int} (h : Pm x) : (partT x).length ≤ 124200 := by
  unfold partT
  rw [len_tl, tl_append, tl_append, List.length_append, List.length_append, ← len_tl, ← len_tl, ← len_tl]
  have := h.1.len
  have := h.2.len
  have : (" ^ " : Str).length = 3 := rfl
  omega
/-- parts that can be told -/
def Ps (ps : List (List (List Int) × Int)) : Prop := ps.length ≤ 20 ∧ ∀ x ∈ ps, Pm x
def partsT (ps : List (List (List Int) × Int)) : Str := if ps = [] then "one" else Txt.join " * " (ps.map partT)
theorem Ps.len {ps : List (List (List Int) × Int)} (h : Ps ps) : (Txt.join " * " (ps.map partT)).length ≤ 2484060 := by
  have := Tjoin_len (y := " * ") (L := 124200) (parts := ps.map partT) fun p hp => by
    obtain ⟨n, hn, rfl⟩ := List.mem_map.mp hp
    exact (h.2 n hn).len
  rw [List.length_map, show (" * " : Str).length = 3 from rfl] at this
  have := Nat.mul_le_mul_right (124200 + 3) h.1
  omega
theorem shparts_ok {ps : List (List (List Int) × Int)} (h : Ps ps) : m_shown_parts ps = ok (partsT ps) := by
  unfold m_shown_parts partsT
  rw [bind_ok]
  by_cases c : ps = []
  · subst c; rfl
  · have := List.length_pos_iff.mpr c
    rw [if_neg (by simp; omega), if_neg c, mapC_ok (g := partT) (fun x hx => by
      have a := (h.2 x hx).1.len
      have b := (h.2 x hx).2.len
      rw [shtab_ok (h.2 x hx).1, bind_ok, show pcatS (tabT x.1) " ^ " = ok (tabT x.1 ++ " ^ ") from grd_pos (by have : (" ^ " : Str).length = 3 := rfl; omega) _, bind_ok, pstr_ok (h.2 x hx).2.log, bind_ok]
      refine grd_pos ?_ _
      rw [len_tl (tabT x.1 ++ " ^ "), tl_append, List.length_append, ← len_tl, ← len_tl]
      have : (" ^ " : Str).length = 3 := rfl
      omega) (by rw [sizeLineE]; have := h.1; omega), bind_ok]
    exact pjoin_ok (L := 124200) (fun p hp => by
      obtain ⟨n, hn, rfl⟩ := List.mem_map.mp hp
      exact (h.2 n hn).len) (by rw [List.length_map, show (" * " : Str).length = 3 from rfl]; have := Nat.mul_le_mul_right (124200 + 3) h.1; omega)
theorem rdparts_ok {ps : List (List (List Int) × Int)} (h : Ps ps) (sq : ∀ x ∈ ps, (∀ row ∈ x.1, row.length = x.1.length) ∧ 1 ≤ x.2) : m_read_parts (partsT ps) = ok ps := by
  unfold m_read_parts partsT
  rw [bind_ok]
  by_cases c : ps = []
  · subst c; rfl
  rw [if_neg c]
  have hl := h.len
  have ch : ∀ d ∈ tl (Txt.join " * " (ps.map partT)), d ≠ 111 := fun d hd => by
    rw [tl_Tjoin] at hd
    rcases mem_joinL hd with z | ⟨p, hp, z⟩
    · have : d = 32 ∨ d = 42 ∨ d = 32 := by simpa [tl] using (show d ∈ [32, 42, 32] from z)
      omega
    · obtain ⟨s, hs, rfl⟩ := List.mem_map.mp hp
      obtain ⟨n, _, rfl⟩ := List.mem_map.mp hs
      have := partT_ch z
      omega
  rw [if_neg (by
    intro z
    have z : Txt.join " * " (ps.map partT) = ("one" : Str) := by simpa using z
    rw [z] at ch
    exact ch 111 (by decide +kernel) rfl), bind_ok, show psplit (Txt.join " * " (ps.map partT)) " * " = ok (ps.map partT) from by
    unfold psplit
    rw [grd_pos ⟨by decide, by omega⟩]
    congr 1
    exact split_join3 (c := 42) rfl (by decide) (by decide +kernel) (fun z => c (List.map_eq_nil_iff.mp z)) fun p hp => by
      obtain ⟨n, hn, rfl⟩ := List.mem_map.mp hp
      intro z
      have := partT_ch z
      omega, bind_ok]
  have L := Tot.loopMi (f := fun (parts4 : (List ((List (List Int)) × Int))) (piece5 : Str) => (M.bind (psplit piece5 (" ^ " : Str)) fun halves6 => (M.bind (M.bind (ok ((!decide ((List.length halves6 : Int) = 2)))) fun z7 => if z7 = true then (exc ⟨"NoText", []⟩) else ok ()) fun s8 => (M.bind (M.bind (pget halves6 1) fun u10 => (m_read_number u10)) fun often9 => (M.bind (M.bind (ok (decide (often9 < 1))) fun z11 => if z11 = true then (exc ⟨"NoText", []⟩) else ok ()) fun s12 => (M.bind (M.bind (M.bind (M.bind (pget halves6 0) fun u13 => (m_read_table u13)) fun u14 => ok (u14, often9)) fun u15 => (papp parts4 u15)) fun parts16 => ok (parts16)))))))
    (xs := ps.map partT) (c := ([] : List (List (List Int) × Int))) (fun i c => c = ps.take i) rfl (fun i c s hs g => by
      rw [List.getElem?_map] at hs
      obtain ⟨x, hx, rfl⟩ := Option.map_eq_some_iff.mp hs
      have hm := List.mem_of_getElem? hx
      have hi := (List.getElem?_eq_some_iff.mp hx).1
      have px := h.2 x hm
      have a := px.len
      rw [show psplit (partT x) " ^ " = ok [tabT x.1, numT x.2] from by
        unfold psplit
        rw [grd_pos ⟨by decide, by omega⟩]
        congr 1
        have e : partT x = Txt.join " ^ " [tabT x.1, numT x.2] := by rw [join_eq]; rfl
        rw [e]
        exact split_join3 (c := 94) rfl (by decide) (by decide +kernel) (by simp) fun p hp => by
          simp only [List.mem_cons, List.not_mem_nil, or_false] at hp
          rcases hp with rfl | rfl
          · intro z; have := tabT_ch z; omega
          · intro z; have := numT_dig z; omega, bind_ok, bind_ok, if_neg (by simp), bind_ok, show pget [tabT x.1, numT x.2] 1 = ok (numT x.2) from pget_some (i := 1) rfl, bind_ok, readnum_ok px.2, bind_ok, bind_ok, if_neg (by have := (sq x hm).2; simp; omega), bind_ok, show pget [tabT x.1, numT x.2] 0 = ok (tabT x.1) from pget_some (i := 0) rfl, bind_ok, rdtab_ok px.1 (sq x hm).1, bind_ok, bind_ok, papp_ok (by rw [g, List.length_take]; have := h.1; omega), bind_ok]
      refine .ok ?_
      rw [g, List.take_succ, hx]
      rfl)
  obtain ⟨v, e, g⟩ := L
  rw [List.length_map, List.take_length] at g
  rw [e, bind_ok, g]
/-- the widths, again and again -/
def wsB : List Int := [5, 41, 60, 3, 100000000, 100000000, 100000000, 100000000, 100000000, 100000000, 100000000, 100000000]
def wsM (m : Nat) : List Int := (List.replicate m wsB).flatten
theorem wsM_len : ∀ m, (wsM m).length = 12 * m
  | 0 => rfl
  | m + 1 => by
    unfold wsM
    rw [List.replicate_succ, List.flatten_cons, List.length_append]
    have := wsM_len m
    unfold wsM at this
    rw [this, show wsB.length = 12 from rfl]; omega
theorem wsM_at : ∀ (m k i : Nat), k < m → i < 12 → (wsM m)[12 * k + i]? = wsB[i]?
  | 0, k, i, h, _ => absurd h (by omega)
  | m + 1, k, i, h, hi => by
    have e : wsM (m + 1) = wsB ++ wsM m := by unfold wsM; rw [List.replicate_succ, List.flatten_cons]
    rw [e]
    cases k with
    | zero => rw [List.getElem?_append_left (by rw [show wsB.length = 12 from rfl]; omega)]; simp
    | succ k =>
      rw [List.getElem?_append_right (by rw [show wsB.length = 12 from rfl]; omega), show 12 * (k + 1) + i - wsB.length = 12 * k + i by rw [show wsB.length = 12 from rfl]; omega]
      exact wsM_at m k i (by omega) hi
theorem wsM_w {m : Nat} (hm : m ≤ 1000) : Widths (wsM m) := ⟨by rw [wsM_len]; omega, fun w hw => by
  have : w ∈ wsB := by
    unfold wsM at hw
    obtain ⟨l, hl, hw⟩ := List.mem_flatten.mp hw
    rwa [List.eq_of_mem_replicate hl] at hw
  exact (Widths.of (ws := wsB) (by decide +kernel)).2 w this⟩
theorem cutL_mid {α : Type} {xs : List α} {a b : Nat} (h : b ≤ xs.length) (hab : a ≤ b) : cutL xs (some (a : Int)) (some (b : Int)) = (xs.drop a).take (b - a) := by
  unfold cutL
  rw [HT.sIx_nat, HT.sIx_nat, Nat.min_eq_left h, Nat.min_eq_left (by omega)]
theorem places_ok (cell : Int) {m : Nat} (hm : m ≤ 1000) {prime : Int} (hp : 0 < prime) : ∃ row, m__law_places cell m prime = ok row ∧ row.length = m ∧ ∀ n ∈ row, Nm n := by
  unfold m__law_places
  obtain ⟨rs, ed, hd⟩ := draws_ok cell (wsM_w hm) hp
  rw [show prep [(100000000 : Int)] 8 = ok (List.replicate 8 100000000) from prep_ok (k := 8) (by decide), bind_ok, pcat_ok (by decide), bind_ok, show prep ([5, 41, 60, 3] ++ List.replicate 8 100000000) (m : Int) = ok (wsM m) from by
    unfold prep
    rw [grd_pos ⟨by omega, by omega, by rw [sizeLineE, Int.toNat_natCast]; simp; omega⟩, Int.toNat_natCast]
    rfl, bind_ok, e_draws, ed, bind_ok, bind_ok, prangeI_nat (by omega), bind_ok]
  have lrs : rs.length = 12 * m := by rw [hd.1, wsM_len]
  have L := Tot.loopMi (f := fun (row_here9 : (List Int)) (k10 : Int) => (M.bind (ok (cutL rs (some (12 * k10)) (some ((12 * k10) + 12)))) fun part11 => (M.bind (ok 0) fun far12 => (M.bind (M.bind (ok (cutL part11 (some 4) none)) fun xs => loopM (fun (far13 : Int) low14 => (M.bind (ok ((far13 * 100000000) + low14)) fun far15 => ok (far15))) (far12) xs) fun far16 => (M.bind (M.bind (pmod far16 (2000000000000000000000000000000000000000000000000000000000000 - 1)) fun u18 => ok (u18 - (1000000000000000000000000000000000000000000000000000000000000 - 1))) fun place17 => (M.bind (M.bind (M.bind (pget part11 0) fun u19 => ok (decide (u19 < 2))) fun z20 => if z20 = true then (M.bind (M.bind (pget part11 1) fun u22 => ok (u22 - 20)) fun place21 => ok (place21)) else ok (place17)) fun place23 => (M.bind (M.bind (M.bind (pget part11 0) fun u24 => ok (decide (2 < u24))) fun z25 => if z25 = true then (M.bind (ok 1) fun place26 => (M.bind (M.bind (M.bind (pget part11 2) fun u27 => (prangeI u27)) fun xs => loopM (fun (place28 : Int) (j29 : Int) => (M.bind (ok (place28 * 10)) fun place30 => ok (place30))) (place26) xs) fun place31 => (M.bind (M.bind (M.bind (pget part11 3) fun u33 => ok (place31 + u33)) fun u34 => ok (u34 - 1)) fun place32 => ok (place32)))) else ok (place23)) fun place35 => (M.bind (M.bind (M.bind (pget part11 0) fun u36 => ok (decide (u36 = 4))) fun z37 => if z37 = true then (M.bind (ok (-place35)) fun place38 => ok (place38)) else ok (place35)) fun place39 => (M.bind (papp row_here9 place39) fun row_here40 => ok (row_here40)))))))))) (xs := rangeL 0 m) (c := ([] : List Int)) (fun i c => c.length = i ∧ ∀ n ∈ c, Nm n) ⟨rfl, fun n hn => absurd hn (by simp)⟩ (fun i c x hx ⟨g1, g2⟩ => by
    obtain ⟨rfl, hi⟩ := range_get hx
    rw [bind_ok, show (12 : Int) * (i : Int) = ((12 * i : Nat) : Int) by omega, show ((12 * i : Nat) : Int) + 12 = ((12 * i + 12 : Nat) : Int) by omega, cutL_mid (by omega) (by omega), show 12 * i + 12 - 12 * i = 12 by omega]
    have at_ : ∀ (j : Nat) (w : Int), j < 12 → wsB[j]? = some w → ∃ d, ((rs.drop (12 * i)).take 12)[j]? = some d ∧ 0 ≤ d ∧ d < w := fun j w hj hw => by
      have hw' : (wsM m)[12 * i + j]? = some w := by rw [wsM_at m i j hi hj]; exact hw
      obtain ⟨d, e, d0, d1⟩ := hd.at hw'
      exact ⟨d, by rw [List.getElem?_take, if_pos hj, List.getElem?_drop]; exact e, d0, d1⟩
    obtain ⟨d0, e0, a0, b0⟩ := at_ 0 5 (by decide) rfl
    obtain ⟨d1, e1, a1, b1⟩ := at_ 1 41 (by decide) rfl
    obtain ⟨d2, e2, a2, b2⟩ := at_ 2 60 (by decide) rfl
    obtain ⟨d3, e3, a3, b3⟩ := at_ 3 3 (by decide) rfl
    generalize (rs.drop (12 * i)).take 12 = part at e0 e1 e2 e3
    replace e0 : pget part 0 = ok d0 := pget_some (i := 0) e0
    replace e1 : pget part 1 = ok d1 := pget_some (i := 1) e1
    replace e2 : pget part 2 = ok d2 := pget_some (i := 2) e2
    replace e3 : pget part 3 = ok d3 := pget_some (i := 3) e3
    have far : ∃ v, (M.bind (ok (cutL part (some 4) none)) fun xs => loopM (fun (far13 : Int) low14 => (M.bind (ok ((far13 * 100000000) + low14)) fun far15 => ok (far15))) 0 xs) = ok v := by
      rw [bind_ok]
      obtain ⟨v, e, _⟩ := Tot.loopMi (f := fun (far13 : Int) (low14 : Int) => (M.bind (ok ((far13 * 100000000) + low14)) fun far15 => ok (far15))) (xs := cutL part (some 4) none) (c := (0 : Int)) (fun _ _ => True) trivial (fun _ _ _ _ _ => by rw [bind_ok]; exact .ok trivial)
      exact ⟨v, e⟩
    obtain ⟨v, ev⟩ := far
    rw [bind_ok, ev, bind_ok, pmod_pos (by decide), bind_ok, bind_ok, e0, bind_ok, bind_ok, e1, bind_ok, bind_ok]
    have z0 := Int.emod_nonneg v (b := 2000000000000000000000000000000000000000000000000000000000000 - 1) (by decide)
    have z1 := Int.emod_lt_of_pos v (b := 2000000000000000000000000000000000000000000000000000000000000 - 1) (by decide)
    have p1 : ∃ a, (if decide (d0 < 2) = true then ok (d1 - 20) else ok (v % (2000000000000000000000000000000000000000000000000000000000000 - 1) - (1000000000000000000000000000000000000000000000000000000000000 - 1))) = (ok a : M Int) ∧ Nm a := by
      by_cases c : d0 < 2
      · rw [if_pos (by simpa using c)]
        exact ⟨_, rfl, by unfold Nm; rw [p60]; omega⟩
      · rw [if_neg (by simpa using c)]
        exact ⟨_, rfl, by unfold Nm; rw [p60]; omega⟩
    obtain ⟨a, ea, ha⟩ := p1
    rw [ea, bind_ok, bind_ok, bind_ok]
    have p2 : ∃ b, (if decide (2 < d0) = true then (M.bind (ok 1) fun place26 => (M.bind (M.bind (M.bind (pget part 2) fun u27 => (prangeI u27)) fun xs => loopM (fun (place28 : Int) (j29 : Int) => (M.bind (ok (place28 * 10)) fun place30 => ok (place30))) (place26) xs) fun place31 => (M.bind (M.bind (M.bind (pget part 3) fun u33 => ok (place31 + u33)) fun u34 => ok (u34 - 1)) fun place32 => ok (place32)))) else ok a) = ok b ∧ Nm b := by
      by_cases c : 2 < d0
      · obtain ⟨j, rfl⟩ := Int.eq_ofNat_of_zero_le a2
        rw [if_pos (by simpa using c), bind_ok, e2, bind_ok, prangeI_nat (by omega), bind_ok]
        obtain ⟨w, ew, hw⟩ := Tot.loopMi (f := fun (place28 : Int) (j29 : Int) => (M.bind (ok (place28 * 10)) fun place30 => ok (place30))) (xs := rangeL 0 j) (c := (1 : Int)) (fun i c => c = ((10 ^ i : Nat) : Int)) rfl (fun i c x hx g => by
          rw [bind_ok]
          refine .ok ?_
          rw [g, Nat.pow_succ, Int.natCast_mul]
          rfl)
        rw [rangeL_len] at hw
        rw [ew, bind_ok, e3, bind_ok, bind_ok, bind_ok]
        refine ⟨_, rfl, ?_⟩
        have q := Nat.pow_le_pow_right (n := 10) (by decide) (show j ≤ 59 by omega)
        have p59 : (10 : Nat) ^ 59 = 100000000000000000000000000000000000000000000000000000000000 := by decide
        rw [p59] at q
        generalize 10 ^ j = t at hw q
        unfold Nm
        rw [p60]
        omega
      · rw [if_neg (by simpa using c)]
        exact ⟨_, rfl, ha⟩
    obtain ⟨b, eb, hb⟩ := p2
    rw [eb, bind_ok, bind_ok, bind_ok]
    have p3 : ∃ d, (if decide (d0 = 4) = true then (M.bind (ok (-b)) fun place38 => ok (place38)) else ok b) = ok d ∧ Nm d := by
      by_cases c : d0 = 4
      · rw [if_pos (by simpa using c), bind_ok]
        exact ⟨_, rfl, by unfold Nm at hb ⊢; rw [Int.natAbs_neg]; exact hb⟩
      · rw [if_neg (by simpa using c)]
        exact ⟨_, rfl, hb⟩
    obtain ⟨d, ed', hd'⟩ := p3
    rw [ed', bind_ok, papp_ok (by omega), bind_ok]
    refine .ok ⟨by rw [List.length_append, List.length_singleton, g1], fun n hn => ?_⟩
    rcases List.mem_append.mp hn with z | z
    · exact g2 n z
    · rw [List.mem_singleton.mp z]; exact hd')
  obtain ⟨row, e, g1, g2⟩ := L
  rw [rangeL_len] at g1
  rw [e, bind_ok]
  exact ⟨row, rfl, g1, g2⟩
/-- rows cut from many places -/
theorem cuts_ok {row : List Int} {m k : Nat} (hm : m ≤ 100) (hk : k ≤ 20) (hl : row.length = k * m) (hn : ∀ n ∈ row, Nm n) (h1 : 1 ≤ m) :
    ∃ t, mapC (fun (k6 : Int) => (M.bind (pmul (m : Int) k6) fun u8 => M.bind (M.bind (pmul (m : Int) k6) fun u7 => ok (u7 + (m : Int))) fun u9 => ok (cutL row (some u8) (some u9)))) (rangeL 0 k) = ok t ∧ t.length = k ∧ (∀ r ∈ t, r.length = m) ∧ ∀ r ∈ t, Rm r := by
  have e : ∀ x ∈ rangeL 0 k, (M.bind (pmul (m : Int) x) fun u8 => M.bind (M.bind (pmul (m : Int) x) fun u7 => ok (u7 + (m : Int))) fun u9 => ok (cutL row (some u8) (some u9))) = ok ((row.drop (m * x.toNat)).take m) := fun x hx => by
    have hx := mem_rangeL hx
    obtain ⟨i, rfl⟩ := Int.eq_ofNat_of_zero_le (show 0 ≤ x by omega)
    have hi : i < k := by omega
    have : m * i + m ≤ row.length := by
      rw [hl, Nat.mul_comm k m, ← Nat.mul_succ]
      exact Nat.mul_le_mul_left m (by omega)
    rw [pmul_right (by rw [pow64]; omega), bind_ok, bind_ok, bind_ok, show (m : Int) * (i : Int) = ((m * i : Nat) : Int) from (Int.natCast_mul ..).symm, show ((m * i : Nat) : Int) + (m : Int) = ((m * i + m : Nat) : Int) from rfl, cutL_mid this (by omega), Int.toNat_natCast, show m * i + m - m * i = m by omega]
  refine ⟨_, mapC_ok (g := fun x : Int => (row.drop (m * x.toNat)).take m) e (by rw [sizeLineE, rangeL_len]; omega), by rw [List.length_map, rangeL_len], ?_, ?_⟩
  all_goals
    intro r hr
    obtain ⟨x, hx, rfl⟩ := List.mem_map.mp hr
    have hx := mem_rangeL hx
    have hi : x.toNat < k := by omega
    have : m * x.toNat + m ≤ row.length := by
      rw [hl, Nat.mul_comm k m, ← Nat.mul_succ]
      exact Nat.mul_le_mul_left m (by omega)
    have ll : ((row.drop (m * x.toNat)).take m).length = m := by rw [List.length_take, List.length_drop]; omega
  · exact ll
  · exact ⟨fun z => by rw [z] at ll; simp at ll; omega, by omega, fun n hn' => hn n (List.mem_of_mem_drop (List.mem_of_mem_take hn'))⟩
theorem square_ok (cell : Int) {m : Nat} (h1 : 1 ≤ m) (hm : m ≤ 20) {prime : Int} (hp : 0 < prime) : ∃ t, m__law_square_table cell m prime = ok t ∧ t.length = m ∧ (∀ r ∈ t, r.length = m) ∧ Tm t := by
  have hmm : m * m ≤ 20 * 20 := Nat.mul_le_mul hm hm
  obtain ⟨row, e, l, hn⟩ := places_ok cell (m := m * m) (by omega) hp
  obtain ⟨t, et, t1, t2, t3⟩ := cuts_ok (m := m) (k := m) (by omega) hm l hn h1
  unfold m__law_square_table
  rw [pmul_right (by rw [pow64]; omega), bind_ok, show (m : Int) * (m : Int) = ((m * m : Nat) : Int) from (Int.natCast_mul ..).symm, e, bind_ok, prangeI_nat (by omega), bind_ok, et]
  exact ⟨t, rfl, t1, t2, fun z => by rw [z] at t1; simp at t1; omega, by omega, t3⟩
theorem wide_ok (cell : Int) {k m : Nat} (h0 : 1 ≤ k) (hk : k ≤ 20) (h1 : 1 ≤ m) (hm : m ≤ 20) {prime : Int} (hp : 0 < prime) : ∃ t, m__law_wide_table cell k m prime = ok t ∧ Tm t := by
  have hmm : k * m ≤ 20 * 20 := Nat.mul_le_mul hk hm
  obtain ⟨row, e, l, hn⟩ := places_ok cell (m := k * m) (by omega) hp
  obtain ⟨t, et, t1, t2, t3⟩ := cuts_ok (m := m) (k := k) (by omega) hk l hn h1
  unfold m__law_wide_table
  rw [pmul_right (by rw [pow64]; omega), bind_ok, show (k : Int) * (m : Int) = ((k * m : Nat) : Int) from (Int.natCast_mul ..).symm, e, bind_ok, prangeI_nat (by omega), bind_ok, et]
  exact ⟨t, rfl, fun z => by rw [z] at t1; simp at t1; omega, by omega, t3⟩
theorem few_ok {ns : List Int} (hl : ns.length ≤ 63) : ∃ ps, m__law_few_parts ns 4 999999761 = ok ps ∧ Ps ps ∧ ∀ x ∈ ps, (∀ row ∈ x.1, row.length = x.1.length) ∧ 1 ≤ x.2 := by
  unfold m__law_few_parts
  obtain ⟨c4, ec4⟩ := cell_ok hl (k := 4) (by decide)
  obtain ⟨rs, ed, hd⟩ := draws_ok c4 (ws := [5, 4, 4, 4, 4]) (prime := 999999761) Widths.of (by decide)
  obtain ⟨d0, r0, a0, b0⟩ := hd.at (i := 0) rfl
  obtain ⟨j0, rfl⟩ := Int.eq_ofNat_of_zero_le a0
  rw [e_cell, e_draws, ec4, bind_ok, ed, bind_ok, bind_ok, show pget rs 0 = ok (j0 : Int) from pget_some (i := 0) r0, bind_ok, prangeI_nat (by omega), bind_ok]
  have L := Tot.loopMi (f := fun (found8 : (List ((List (List Int)) × Int))) (j9 : Int) => (M.bind (M.bind (m_cell ns ((4 + 5) + j9)) fun u11 => (m__law_places u11 1 999999739)) fun far10 => (M.bind (M.bind (M.bind (M.bind (m_cell ns ((4 + 1) + j9)) fun u13 => M.bind (M.bind (pget rs (1 + j9)) fun u12 => ok (u12 + 1)) fun u14 => (m__law_square_table u13 u14 999999761)) fun u17 => M.bind (M.bind (M.bind (pget far10 0) fun u15 => ok (Int.natAbs u15 : Int)) fun u16 => ok (max 1 u16)) fun u18 => ok (u17, u18)) fun u19 => (papp found8 u19)) fun found20 => ok (found20)))) (xs := rangeL 0 j0) (c := ([] : List (List (List Int) × Int)))
    (fun i c => c.length = i ∧ ∀ x ∈ c, Pm x ∧ (∀ row ∈ x.1, row.length = x.1.length) ∧ 1 ≤ x.2) ⟨rfl, fun x hx => absurd hx (by simp)⟩ (fun i c x hx ⟨g1, g2⟩ => by
      obtain ⟨rfl, hi⟩ := range_get hx
      obtain ⟨ca, eca⟩ := cell_ok hl (k := 4 + 5 + (i : Int)) (by omega)
      obtain ⟨cb, ecb⟩ := cell_ok hl (k := 4 + 1 + (i : Int)) (by omega)
      obtain ⟨row, er, lr, hr⟩ := places_ok ca (m := 1) (by decide) (prime := 999999739) (by decide)
      obtain ⟨n, rfl⟩ : ∃ n, row = [n] := List.length_eq_one_iff.mp lr
      have hn := hr n (by simp)
      have hdi : ∃ d : Int, rs[1 + i]? = some d ∧ 0 ≤ d ∧ d < 4 := by
        rcases show i = 0 ∨ i = 1 ∨ i = 2 ∨ i = 3 by omega with rfl | rfl | rfl | rfl
        · exact hd.at (i := 1) rfl
        · exact hd.at (i := 2) rfl
        · exact hd.at (i := 3) rfl
        · exact hd.at (i := 4) rfl
      obtain ⟨d, ed1, d0', d1'⟩ := hdi
      obtain ⟨k, rfl⟩ := Int.eq_ofNat_of_zero_le d0'
      obtain ⟨t, et, t1, t2, t3⟩ := square_ok cb (m := k + 1) (by omega) (by omega) (prime := 999999761) (by decide)
      have et : m__law_square_table cb ((k : Int) + 1) 999999761 = ok t := et
      rw [eca, bind_ok, show m__law_places ca 1 999999739 = ok [n] from er, bind_ok, ecb, bind_ok, show pget rs (1 + (i : Int)) = ok (k : Int) from by rw [show (1 : Int) + (i : Int) = ((1 + i : Nat) : Int) by omega]; exact pget_some ed1, bind_ok, bind_ok, et, bind_ok, show pget [n] 0 = ok n from pget_some (i := 0) rfl, bind_ok, bind_ok, bind_ok, bind_ok, papp_ok (by omega), bind_ok]
      refine .ok ⟨by rw [List.length_append, List.length_singleton, g1], fun x hx => ?_⟩
      rcases List.mem_append.mp hx with z | z
      · exact g2 x z
      · rw [List.mem_singleton.mp z]
        refine ⟨⟨t3, ?_⟩, fun row hr => by rw [t1]; exact t2 row hr, by show 1 ≤ max 1 (n.natAbs : Int); omega⟩
        unfold Nm at hn ⊢
        rw [p60] at hn ⊢
        omega)
  obtain ⟨ps, e, g1, g2⟩ := L
  rw [rangeL_len] at g1
  rw [e, bind_ok]
  exact ⟨ps, rfl, ⟨by omega, fun x hx => (g2 x hx).1⟩, fun x hx => (g2 x hx).2⟩
theorem whole_ok (n : Int) : m__law_whole n = ok true := rfl
theorem row_ok {row : List Int} {m : Nat} (h : row.length = m) (hm : m ≤ 1000) : m__law_row row m = ok true := by
  unfold m__law_row
  rw [bind_ok, if_neg (by decide), bind_ok, if_neg (by rw [h]; simp), mapC_ok (f := fun place5 => m__law_whole place5) (g := fun _ => true) (fun x _ => whole_ok x) (by rw [sizeLineE]; omega), bind_ok]
  congr 1
  exact List.all_eq_true.mpr fun z hz => by
    obtain ⟨_, _, rfl⟩ := List.mem_map.mp hz
    rfl
theorem istab_ok {t : List (List Int)} {m : Nat} (h : t.length = m) (hr : ∀ r ∈ t, r.length = m) (hm : m ≤ 1000) : m__law_is_table t m = ok true := by
  unfold m__law_is_table
  rw [bind_ok, if_neg (by decide), bind_ok, if_neg (by rw [h]; simp), mapC_ok (g := fun _ => true) (fun r hr' => row_ok (hr r hr') hm) (by rw [sizeLineE]; omega), bind_ok]
  congr 1
  exact List.all_eq_true.mpr fun z hz => by
    obtain ⟨_, _, rfl⟩ := List.mem_map.mp hz
    rfl
theorem isparts_ok {ps : List (List (List Int) × Int)} (h : Ps ps) (sq : ∀ x ∈ ps, (∀ row ∈ x.1, row.length = x.1.length) ∧ 1 ≤ x.2) : m__law_is_parts ps ps = ok true := by
  unfold m__law_is_parts
  rw [bind_ok, if_neg (by decide), bind_ok, if_neg (by simp), bind_ok, loopF_nx _ fun x hx => by
    have := (h.2 x hx).1.2.1
    rw [bind_ok, if_neg (by decide), bind_ok, if_neg (by decide), whole_ok, bind_ok, bind_ok, if_neg (by decide), bind_ok, if_neg (by decide), istab_ok rfl (sq x hx).1 (by omega), bind_ok, bind_ok, if_neg (by decide)], sq_nx, decide_eq_true rfl]
theorem law_true (ns : List Int) (hl : ns.length ≤ 63) : m_law ns = ok true := by
  obtain ⟨c0, ec0⟩ := cell_ok hl (k := 0) (by decide)
  obtain ⟨c1, ec1⟩ := cell_ok hl (k := 1) (by decide)
  obtain ⟨c2, ec2⟩ := cell_ok hl (k := 2) (by decide)
  obtain ⟨c3, ec3⟩ := cell_ok hl (k := 3) (by decide)
  obtain ⟨c14, ec14⟩ := cell_ok hl (k := 14) (by decide)
  obtain ⟨c15, ec15⟩ := cell_ok hl (k := 15) (by decide)
  obtain ⟨c16, ec16⟩ := cell_ok hl (k := 16) (by decide)
  obtain ⟨ra, eda, hda⟩ := draws_ok c0 (ws := [8, 8, 30]) (prime := 999999937) Widths.of (by decide)
  obtain ⟨x0, f0, p0, q0⟩ := hda.at (i := 0) rfl
  obtain ⟨x1, f1, p1, q1⟩ := hda.at (i := 1) rfl
  obtain ⟨x2, f2, p2, q2⟩ := hda.at (i := 2) rfl
  replace f0 : pget ra 0 = ok x0 := pget_some (i := 0) f0
  replace f1 : pget ra 1 = ok x1 := pget_some (i := 1) f1
  replace f2 : pget ra 2 = ok x2 := pget_some (i := 2) f2
  obtain ⟨rb, edb, hdb⟩ := draws_ok c2 (ws := [4, 8, 5]) (prime := 999999883) Widths.of (by decide)
  obtain ⟨y0, g0, s0, t0⟩ := hdb.at (i := 0) rfl
  obtain ⟨y1, g1, s1, t1⟩ := hdb.at (i := 1) rfl
  obtain ⟨y2, g2, s2, t2⟩ := hdb.at (i := 2) rfl
  replace g0 : pget rb 0 = ok y0 := pget_some (i := 0) g0
  replace g1 : pget rb 1 = ok y1 := pget_some (i := 1) g1
  replace g2 : pget rb 2 = ok y2 := pget_some (i := 2) g2
  obtain ⟨rc, edc, hdc⟩ := draws_ok c14 (ws := [4, 6, 4, 6]) (prime := 999999757) Widths.of (by decide)
  obtain ⟨z0, h0, u0, v0⟩ := hdc.at (i := 0) rfl
  obtain ⟨z1, h1, u1, v1⟩ := hdc.at (i := 1) rfl
  obtain ⟨z2, h2, u2, v2⟩ := hdc.at (i := 2) rfl
  obtain ⟨z3, h3, u3, v3⟩ := hdc.at (i := 3) rfl
  replace h0 : pget rc 0 = ok z0 := pget_some (i := 0) h0
  replace h1 : pget rc 1 = ok z1 := pget_some (i := 1) h1
  replace h2 : pget rc 2 = ok z2 := pget_some (i := 2) h2
  replace h3 : pget rc 3 = ok z3 := pget_some (i := 3) h3
  have mA : ∃ m : Nat, (if decide (x1 = 7) = true then (M.bind (M.bind (pget ra 2) fun u9 => ok (1 + u9)) fun many8 => ok (many8)) else ok (1 + x0)) = ok (m : Int) ∧ 1 ≤ m ∧ m ≤ 30 := by
    by_cases c : x1 = 7
    · rw [if_pos (by simpa using c), f2, bind_ok, bind_ok]
      exact ⟨(1 + x2).toNat, by rw [Int.toNat_of_nonneg (by omega)], by omega, by omega⟩
    · rw [if_neg (by simpa using c)]
      exact ⟨(1 + x0).toNat, by rw [Int.toNat_of_nonneg (by omega)], by omega, by omega⟩
  obtain ⟨m, em, m1, m2⟩ := mA
  have mB : ∃ k : Nat, (if decide (y1 = 7) = true then (M.bind (M.bind (pget rb 2) fun u28 => ok (5 + u28)) fun many27 => ok (many27)) else ok (1 + y0)) = ok (k : Int) ∧ 1 ≤ k ∧ k ≤ 9 := by
    by_cases c : y1 = 7
    · rw [if_pos (by simpa using c), g2, bind_ok, bind_ok]
      exact ⟨(5 + y2).toNat, by rw [Int.toNat_of_nonneg (by omega)], by omega, by omega⟩
    · rw [if_neg (by simpa using c)]
      exact ⟨(1 + y0).toNat, by rw [Int.toNat_of_nonneg (by omega)], by omega, by omega⟩
  obtain ⟨k, ek, k1, k2⟩ := mB
  obtain ⟨row, er, lr, hr⟩ := places_ok c1 (m := m) (by omega) (prime := 999999893) (by decide)
  have rm : Rm row := ⟨fun z => by rw [z] at lr; simp at lr; omega, by omega, hr⟩
  obtain ⟨t, et, l1, l2, tm⟩ := square_ok c3 (m := k) k1 (by omega) (prime := 999999797) (by decide)
  obtain ⟨ps, eps, hps, sps⟩ := few_ok hl
  obtain ⟨w1, ew1, tw1⟩ := wide_ok c15 (k := (1 + z0).toNat) (m := (1 + z1).toNat) (by omega) (by omega) (by omega) (by omega) (prime := 999999751) (by decide)
  obtain ⟨w2, ew2, tw2⟩ := wide_ok c16 (k := (1 + z2).toNat) (m := (1 + z3).toNat) (by omega) (by omega) (by omega) (by omega) (prime := 999999739) (by decide)
  rw [Int.toNat_of_nonneg (by omega), Int.toNat_of_nonneg (by omega)] at ew1 ew2
  have pm : Ps [(w1, 1 + z1), (w2, 100000000000000000000)] := ⟨by simp, fun x hx => by
    simp only [List.mem_cons, List.not_mem_nil, or_false] at hx
    rcases hx with rfl | rfl
    · exact ⟨tw1, by unfold Nm; rw [p60]; show (1 + z1).natAbs < _; omega⟩
    · exact ⟨tw2, by unfold Nm; rw [p60]; show (100000000000000000000 : Int).natAbs < _; decide⟩⟩
  unfold m_law
  rw [e_cell, e_draws, e_row, e_table, e_parts, ec0, bind_ok, eda, bind_ok, f0, bind_ok, bind_ok, f1, bind_ok, bind_ok, em, bind_ok, ec1, bind_ok, er, bind_ok, shrow_ok rm, bind_ok, bind_ok, decide_eq_true rfl, bind_ok, if_neg (by decide), rdrow_ok rm, bind_ok, row_ok lr (by omega), bind_ok, bind_ok, if_neg (by decide), bind_ok, decide_eq_true rfl, bind_ok, if_neg (by decide)]
  rw [ec2, bind_ok, edb, bind_ok, g0, bind_ok, bind_ok, g1, bind_ok, bind_ok, ek, bind_ok, ec3, bind_ok, et, bind_ok, shtab_ok tm, bind_ok, bind_ok, bind_ok, decide_eq_true rfl, if_neg (by decide), rdtab_ok tm (fun r hr => by rw [l1]; exact l2 r hr), bind_ok, istab_ok l1 l2 (by omega), bind_ok, bind_ok, if_neg (by decide), bind_ok, decide_eq_true rfl, bind_ok, if_neg (by decide)]
  rw [eps, bind_ok, shparts_ok hps, bind_ok, bind_ok, shparts_ok hps, bind_ok, bind_ok, if_neg (by rw [decide_eq_true rfl]; decide), bind_ok, if_neg (by rw [decide_eq_true rfl]; decide), rdparts_ok hps sps, bind_ok, isparts_ok hps sps, bind_ok, bind_ok, if_neg (by decide), papp_ok (by rw [List.length_map]; have := hps.1; omega), bind_ok, bind_ok, isparts_ok hps sps, bind_ok, bind_ok, if_neg (by decide)]
  rw [ec14, bind_ok, edc, bind_ok, ec15, bind_ok, h0, bind_ok, bind_ok, h1, bind_ok, bind_ok, ew1, bind_ok, ec16, bind_ok, h2, bind_ok, bind_ok, h3, bind_ok, bind_ok, ew2, bind_ok]
  rw [bind_ok, bind_ok, psz_ok (by simp), bind_ok, shtab_ok tw1, bind_ok, bind_ok, bind_ok, decide_eq_true rfl, if_neg (by decide), shtab_ok tw2, bind_ok, bind_ok, decide_eq_true rfl, bind_ok, if_neg (by decide), shparts_ok pm, bind_ok, bind_ok, decide_eq_true rfl]
end K86Law
namespace K86Law
open PySem PySem.Spec PyProof.Rows L2 T
theorem facts_mk {K : Fr} {mg : Str → Option Value} {h : Heap} (X : K.In h) (G : h.Ns mainGlobals mg)
    {f0 : Addr} {oc0 kV0 doc0 pm0 cdv0 ct0 : Value} {od0 an0 : Option Addr} {sl0 : Array (Option Value)} (a0 : PySem.W.nsIn K mainGlobals "shown_row" = some (some (.ref f0))) (l0 : K.lookup f0 = some ⟨oc0, od0, .func (PySem.W.fnOf "shown_row" "shown_row" (defArgs s_shown_row) (defBody s_shown_row) (defScope s_shown_row) .none kV0 doc0 pm0 an0 cdv0 ct0), sl0⟩) (c0 : PySem.W.codeIn K cdv0 "shown_row" = true) (k0 : PySem.W.keepIn K (.ref f0) = true)
    {f1 : Addr} {oc1 kV1 doc1 pm1 cdv1 ct1 : Value} {od1 an1 : Option Addr} {sl1 : Array (Option Value)} (a1 : PySem.W.nsIn K mainGlobals "shown_table" = some (some (.ref f1))) (l1 : K.lookup f1 = some ⟨oc1, od1, .func (PySem.W.fnOf "shown_table" "shown_table" (defArgs s_shown_table) (defBody s_shown_table) (defScope s_shown_table) .none kV1 doc1 pm1 an1 cdv1 ct1), sl1⟩) (c1 : PySem.W.codeIn K cdv1 "shown_table" = true) (k1 : PySem.W.keepIn K (.ref f1) = true)
    {f2 : Addr} {oc2 kV2 doc2 pm2 cdv2 ct2 : Value} {od2 an2 : Option Addr} {sl2 : Array (Option Value)} (a2 : PySem.W.nsIn K mainGlobals "shown_parts" = some (some (.ref f2))) (l2 : K.lookup f2 = some ⟨oc2, od2, .func (PySem.W.fnOf "shown_parts" "shown_parts" (defArgs s_shown_parts) (defBody s_shown_parts) (defScope s_shown_parts) .none kV2 doc2 pm2 an2 cdv2 ct2), sl2⟩) (c2 : PySem.W.codeIn K cdv2 "shown_parts" = true) (k2 : PySem.W.keepIn K (.ref f2) = true)
    {f3 : Addr} {oc3 kV3 doc3 pm3 cdv3 ct3 : Value} {od3 an3 : Option Addr} {sl3 : Array (Option Value)} (a3 : PySem.W.nsIn K mainGlobals "is_number" = some (some (.ref f3))) (l3 : K.lookup f3 = some ⟨oc3, od3, .func (PySem.W.fnOf "is_number" "is_number" (defArgs s_is_number) (defBody s_is_number) (defScope s_is_number) .none kV3 doc3 pm3 an3 cdv3 ct3), sl3⟩) (c3 : PySem.W.codeIn K cdv3 "is_number" = true) (k3 : PySem.W.keepIn K (.ref f3) = true)
    {f4 : Addr} {oc4 kV4 doc4 pm4 cdv4 ct4 : Value} {od4 an4 : Option Addr} {sl4 : Array (Option Value)} (a4 : PySem.W.nsIn K mainGlobals "read_number" = some (some (.ref f4))) (l4 : K.lookup f4 = some ⟨oc4, od4, .func (PySem.W.fnOf "read_number" "read_number" (defArgs s_read_number) (defBody s_read_number) (defScope s_read_number) .none kV4 doc4 pm4 an4 cdv4 ct4), sl4⟩) (c4 : PySem.W.codeIn K cdv4 "read_number" = true) (k4 : PySem.W.keepIn K (.ref f4) = true)
    {f5 : Addr} {oc5 kV5 doc5 pm5 cdv5 ct5 : Value} {od5 an5 : Option Addr} {sl5 : Array (Option Value)} (a5 : PySem.W.nsIn K mainGlobals "read_row" = some (some (.ref f5))) (l5 : K.lookup f5 = some ⟨oc5, od5, .func (PySem.W.fnOf "read_row" "read_row" (defArgs s_read_row) (defBody s_read_row) (defScope s_read_row) .none kV5 doc5 pm5 an5 cdv5 ct5), sl5⟩) (c5 : PySem.W.codeIn K cdv5 "read_row" = true) (k5 : PySem.W.keepIn K (.ref f5) = true)
    {f6 : Addr} {oc6 kV6 doc6 pm6 cdv6 ct6 : Value} {od6 an6 : Option Addr} {sl6 : Array (Option Value)} (a6 : PySem.W.nsIn K mainGlobals "read_table" = some (some (.ref f6))) (l6 : K.lookup f6 = some ⟨oc6, od6, .func (PySem.W.fnOf "read_table" "read_table" (defArgs s_read_table) (defBody s_read_table) (defScope s_read_table) .none kV6 doc6 pm6 an6 cdv6 ct6), sl6⟩) (c6 : PySem.W.codeIn K cdv6 "read_table" = true) (k6 : PySem.W.keepIn K (.ref f6) = true)
    {f7 : Addr} {oc7 kV7 doc7 pm7 cdv7 ct7 : Value} {od7 an7 : Option Addr} {sl7 : Array (Option Value)} (a7 : PySem.W.nsIn K mainGlobals "read_parts" = some (some (.ref f7))) (l7 : K.lookup f7 = some ⟨oc7, od7, .func (PySem.W.fnOf "read_parts" "read_parts" (defArgs s_read_parts) (defBody s_read_parts) (defScope s_read_parts) .none kV7 doc7 pm7 an7 cdv7 ct7), sl7⟩) (c7 : PySem.W.codeIn K cdv7 "read_parts" = true) (k7 : PySem.W.keepIn K (.ref f7) = true)
    {f8 : Addr} {oc8 kV8 doc8 pm8 cdv8 ct8 : Value} {od8 an8 : Option Addr} {sl8 : Array (Option Value)} (a8 : PySem.W.nsIn K mainGlobals "_law_cell" = some (some (.ref f8))) (l8 : K.lookup f8 = some ⟨oc8, od8, .func (PySem.W.fnOf "_law_cell" "_law_cell" (defArgs s__law_cell) (defBody s__law_cell) (defScope s__law_cell) .none kV8 doc8 pm8 an8 cdv8 ct8), sl8⟩) (c8 : PySem.W.codeIn K cdv8 "_law_cell" = true) (k8 : PySem.W.keepIn K (.ref f8) = true)
    {f9 : Addr} {oc9 kV9 doc9 pm9 cdv9 ct9 : Value} {od9 an9 : Option Addr} {sl9 : Array (Option Value)} (a9 : PySem.W.nsIn K mainGlobals "_law_mixed" = some (some (.ref f9))) (l9 : K.lookup f9 = some ⟨oc9, od9, .func (PySem.W.fnOf "_law_mixed" "_law_mixed" (defArgs s__law_mixed) (defBody s__law_mixed) (defScope s__law_mixed) .none kV9 doc9 pm9 an9 cdv9 ct9), sl9⟩) (c9 : PySem.W.codeIn K cdv9 "_law_mixed" = true) (k9 : PySem.W.keepIn K (.ref f9) = true)
    {f10 : Addr} {oc10 kV10 doc10 pm10 cdv10 ct10 : Value} {od10 an10 : Option Addr} {sl10 : Array (Option Value)} (a10 : PySem.W.nsIn K mainGlobals "_law_draws" = some (some (.ref f10))) (l10 : K.lookup f10 = some ⟨oc10, od10, .func (PySem.W.fnOf "_law_draws" "_law_draws" (defArgs s__law_draws) (defBody s__law_draws) (defScope s__law_draws) .none kV10 doc10 pm10 an10 cdv10 ct10), sl10⟩) (c10 : PySem.W.codeIn K cdv10 "_law_draws" = true) (k10 : PySem.W.keepIn K (.ref f10) = true)
    {f11 : Addr} {oc11 kV11 doc11 pm11 cdv11 ct11 : Value} {od11 an11 : Option Addr} {sl11 : Array (Option Value)} (a11 : PySem.W.nsIn K mainGlobals "_law_whole" = some (some (.ref f11))) (l11 : K.lookup f11 = some ⟨oc11, od11, .func (PySem.W.fnOf "_law_whole" "_law_whole" (defArgs s__law_whole) (defBody s__law_whole) (defScope s__law_whole) .none kV11 doc11 pm11 an11 cdv11 ct11), sl11⟩) (c11 : PySem.W.codeIn K cdv11 "_law_whole" = true) (k11 : PySem.W.keepIn K (.ref f11) = true)
    {f12 : Addr} {oc12 kV12 doc12 pm12 cdv12 ct12 : Value} {od12 an12 : Option Addr} {sl12 : Array (Option Value)} (a12 : PySem.W.nsIn K mainGlobals "_law_row" = some (some (.ref f12))) (l12 : K.lookup f12 = some ⟨oc12, od12, .func (PySem.W.fnOf "_law_row" "_law_row" (defArgs s__law_row) (defBody s__law_row) (defScope s__law_row) .none kV12 doc12 pm12 an12 cdv12 ct12), sl12⟩) (c12 : PySem.W.codeIn K cdv12 "_law_row" = true) (k12 : PySem.W.keepIn K (.ref f12) = true)
    {f13 : Addr} {oc13 kV13 doc13 pm13 cdv13 ct13 : Value} {od13 an13 : Option Addr} {sl13 : Array (Option Value)} (a13 : PySem.W.nsIn K mainGlobals "_law_is_table" = some (some (.ref f13))) (l13 : K.lookup f13 = some ⟨oc13, od13, .func (PySem.W.fnOf "_law_is_table" "_law_is_table" (defArgs s__law_is_table) (defBody s__law_is_table) (defScope s__law_is_table) .none kV13 doc13 pm13 an13 cdv13 ct13), sl13⟩) (c13 : PySem.W.codeIn K cdv13 "_law_is_table" = true) (k13 : PySem.W.keepIn K (.ref f13) = true)
    {f14 : Addr} {oc14 kV14 doc14 pm14 cdv14 ct14 : Value} {od14 an14 : Option Addr} {sl14 : Array (Option Value)} (a14 : PySem.W.nsIn K mainGlobals "_law_places" = some (some (.ref f14))) (l14 : K.lookup f14 = some ⟨oc14, od14, .func (PySem.W.fnOf "_law_places" "_law_places" (defArgs s__law_places) (defBody s__law_places) (defScope s__law_places) .none kV14 doc14 pm14 an14 cdv14 ct14), sl14⟩) (c14 : PySem.W.codeIn K cdv14 "_law_places" = true) (k14 : PySem.W.keepIn K (.ref f14) = true)
    {f15 : Addr} {oc15 kV15 doc15 pm15 cdv15 ct15 : Value} {od15 an15 : Option Addr} {sl15 : Array (Option Value)} (a15 : PySem.W.nsIn K mainGlobals "_law_square_table" = some (some (.ref f15))) (l15 : K.lookup f15 = some ⟨oc15, od15, .func (PySem.W.fnOf "_law_square_table" "_law_square_table" (defArgs s__law_square_table) (defBody s__law_square_table) (defScope s__law_square_table) .none kV15 doc15 pm15 an15 cdv15 ct15), sl15⟩) (c15 : PySem.W.codeIn K cdv15 "_law_square_table" = true) (k15 : PySem.W.keepIn K (.ref f15) = true)
    {f16 : Addr} {oc16 kV16 doc16 pm16 cdv16 ct16 : Value} {od16 an16 : Option Addr} {sl16 : Array (Option Value)} (a16 : PySem.W.nsIn K mainGlobals "_law_few_parts" = some (some (.ref f16))) (l16 : K.lookup f16 = some ⟨oc16, od16, .func (PySem.W.fnOf "_law_few_parts" "_law_few_parts" (defArgs s__law_few_parts) (defBody s__law_few_parts) (defScope s__law_few_parts) .none kV16 doc16 pm16 an16 cdv16 ct16), sl16⟩) (c16 : PySem.W.codeIn K cdv16 "_law_few_parts" = true) (k16 : PySem.W.keepIn K (.ref f16) = true)
    {f17 : Addr} {oc17 kV17 doc17 pm17 cdv17 ct17 : Value} {od17 an17 : Option Addr} {sl17 : Array (Option Value)} (a17 : PySem.W.nsIn K mainGlobals "_law_row_text" = some (some (.ref f17))) (l17 : K.lookup f17 = some ⟨oc17, od17, .func (PySem.W.fnOf "_law_row_text" "_law_row_text" (defArgs s__law_row_text) (defBody s__law_row_text) (defScope s__law_row_text) .none kV17 doc17 pm17 an17 cdv17 ct17), sl17⟩) (c17 : PySem.W.codeIn K cdv17 "_law_row_text" = true) (k17 : PySem.W.keepIn K (.ref f17) = true)
    {f18 : Addr} {oc18 kV18 doc18 pm18 cdv18 ct18 : Value} {od18 an18 : Option Addr} {sl18 : Array (Option Value)} (a18 : PySem.W.nsIn K mainGlobals "_law_table_text" = some (some (.ref f18))) (l18 : K.lookup f18 = some ⟨oc18, od18, .func (PySem.W.fnOf "_law_table_text" "_law_table_text" (defArgs s__law_table_text) (defBody s__law_table_text) (defScope s__law_table_text) .none kV18 doc18 pm18 an18 cdv18 ct18), sl18⟩) (c18 : PySem.W.codeIn K cdv18 "_law_table_text" = true) (k18 : PySem.W.keepIn K (.ref f18) = true)
    {f19 : Addr} {oc19 kV19 doc19 pm19 cdv19 ct19 : Value} {od19 an19 : Option Addr} {sl19 : Array (Option Value)} (a19 : PySem.W.nsIn K mainGlobals "_law_parts_text" = some (some (.ref f19))) (l19 : K.lookup f19 = some ⟨oc19, od19, .func (PySem.W.fnOf "_law_parts_text" "_law_parts_text" (defArgs s__law_parts_text) (defBody s__law_parts_text) (defScope s__law_parts_text) .none kV19 doc19 pm19 an19 cdv19 ct19), sl19⟩) (c19 : PySem.W.codeIn K cdv19 "_law_parts_text" = true) (k19 : PySem.W.keepIn K (.ref f19) = true)
    {f20 : Addr} {oc20 kV20 doc20 pm20 cdv20 ct20 : Value} {od20 an20 : Option Addr} {sl20 : Array (Option Value)} (a20 : PySem.W.nsIn K mainGlobals "_law_is_parts" = some (some (.ref f20))) (l20 : K.lookup f20 = some ⟨oc20, od20, .func (PySem.W.fnOf "_law_is_parts" "_law_is_parts" (defArgs s__law_is_parts) (defBody s__law_is_parts) (defScope s__law_is_parts) .none kV20 doc20 pm20 an20 cdv20 ct20), sl20⟩) (c20 : PySem.W.codeIn K cdv20 "_law_is_parts" = true) (k20 : PySem.W.keepIn K (.ref f20) = true)
    {f21 : Addr} {oc21 kV21 doc21 pm21 cdv21 ct21 : Value} {od21 an21 : Option Addr} {sl21 : Array (Option Value)} (a21 : PySem.W.nsIn K mainGlobals "_law_wide_table" = some (some (.ref f21))) (l21 : K.lookup f21 = some ⟨oc21, od21, .func (PySem.W.fnOf "_law_wide_table" "_law_wide_table" (defArgs s__law_wide_table) (defBody s__law_wide_table) (defScope s__law_wide_table) .none kV21 doc21 pm21 an21 cdv21 ct21), sl21⟩) (c21 : PySem.W.codeIn K cdv21 "_law_wide_table" = true) (k21 : PySem.W.keepIn K (.ref f21) = true)
    {f22 : Addr} {oc22 kV22 doc22 pm22 cdv22 ct22 : Value} {od22 an22 : Option Addr} {sl22 : Array (Option Value)} (a22 : PySem.W.nsIn K mainGlobals "law" = some (some (.ref f22))) (l22 : K.lookup f22 = some ⟨oc22, od22, .func (PySem.W.fnOf "law" "law" (defArgs s_law) (defBody s_law) (defScope s_law) .none kV22 doc22 pm22 an22 cdv22 ct22), sl22⟩) (c22 : PySem.W.codeIn K cdv22 "law" = true) (k22 : PySem.W.keepIn K (.ref f22) = true)
    {C0 : Addr} (ca0 : PySem.W.nsIn K mainGlobals "NoText" = some (some (.ref C0)))
    (cb0 : PySem.W.subIn K (.ref C0) (.type "BaseException") = some true) (cy0 : PySem.W.typeIn K (.ref C0) = some (.type "type")) (ck0 : PySem.W.keepIn K (.ref C0) = true)
    (cx0 : PySem.W.excIn K C0 [.type "ValueError", .type "Exception", .type "BaseException", .type "object"] "ValueError.__new__" = true)
    (z0 : PySem.W.nsIn K mainGlobals "abs" = some none)
    (z1 : PySem.W.nsIn K mainGlobals "all" = some none)
    (z2 : PySem.W.nsIn K mainGlobals "bool" = some none)
    (z3 : PySem.W.nsIn K mainGlobals "int" = some none)
    (z4 : PySem.W.nsIn K mainGlobals "isinstance" = some none)
    (z5 : PySem.W.nsIn K mainGlobals "len" = some none)
    (z6 : PySem.W.nsIn K mainGlobals "list" = some none)
    (z7 : PySem.W.nsIn K mainGlobals "max" = some none)
    (z8 : PySem.W.nsIn K mainGlobals "range" = some none)
    (z9 : PySem.W.nsIn K mainGlobals "str" = some none)
    (z10 : PySem.W.nsIn K mainGlobals "tuple" = some none)
    {ct0 : Tok} (q0 : PySem.W.nsIn K mainGlobals "FIGURES" = some (some (.str c_FIGURES ct0)))
    {ct1 : Tok} (q1 : PySem.W.nsIn K mainGlobals "MOST" = some (some (.int c_MOST ct1)))
    : Facts K mg where
  d_shown_row := defAt_mk X G a0 l0 c0 k0
  d_shown_table := defAt_mk X G a1 l1 c1 k1
  d_shown_parts := defAt_mk X G a2 l2 c2 k2
  d_is_number := defAt_mk X G a3 l3 c3 k3
  d_read_number := defAt_mk X G a4 l4 c4 k4
  d_read_row := defAt_mk X G a5 l5 c5 k5
  d_read_table := defAt_mk X G a6 l6 c6 k6
  d_read_parts := defAt_mk X G a7 l7 c7 k7
  d__law_cell := defAt_mk X G a8 l8 c8 k8
  d__law_mixed := defAt_mk X G a9 l9 c9 k9
  d__law_draws := defAt_mk X G a10 l10 c10 k10
  d__law_whole := defAt_mk X G a11 l11 c11 k11
  d__law_row := defAt_mk X G a12 l12 c12 k12
  d__law_is_table := defAt_mk X G a13 l13 c13 k13
  d__law_places := defAt_mk X G a14 l14 c14 k14
  d__law_square_table := defAt_mk X G a15 l15 c15 k15
  d__law_few_parts := defAt_mk X G a16 l16 c16 k16
  d__law_row_text := defAt_mk X G a17 l17 c17 k17
  d__law_table_text := defAt_mk X G a18 l18 c18 k18
  d__law_parts_text := defAt_mk X G a19 l19 c19 k19
  d__law_is_parts := defAt_mk X G a20 l20 c20 k20
  d__law_wide_table := defAt_mk X G a21 l21 c21 k21
  d_law := defAt_mk X G a22 l22 c22 k22
  x_NoText := xpl_mk X G ca0 cx0 ck0 cb0 cy0
  n_abs := PySem.W.mg_none_of X G z0
  n_all := PySem.W.mg_none_of X G z1
  n_bool := PySem.W.mg_none_of X G z2
  n_int := PySem.W.mg_none_of X G z3
  n_isinstance := PySem.W.mg_none_of X G z4
  n_len := PySem.W.mg_none_of X G z5
  n_list := PySem.W.mg_none_of X G z6
  n_max := PySem.W.mg_none_of X G z7
  n_range := PySem.W.mg_none_of X G z8
  n_str := PySem.W.mg_none_of X G z9
  n_tuple := PySem.W.mg_none_of X G z10
  g_FIGURES := globD_str X G q0
  g_MOST := globD_int X G q1
theorem law_mk {l : PySem.W.OpenLaw} {w : World} {K : Fr} {mg : Str → Option Value} {fa : Addr} (T : Facts K mg) (hfa : mg "law" = some (.ref fa)) (hm : ∀ ns : List Int, ns.length ≤ 63 → m_law ns = ok true) :
    ∃ fd : FuncData, (∀ (s : Shared) (u : Value), BindsTo s fd ⟨[u], []⟩ [("_law_script", u)]) ∧ ∀ base : Heap, K.In base → base.Ns mainGlobals mg → FnOk l.prog w K mg base (L2.CX l.prog w) 6 fa fd ["_law_script"] (spLaw K) :=
  law_fd T.d_law hfa (fun _ _ _ _ _ _ s v => .of_eq rfl) hm fun base f fd F => ok_law T F
end K86Law
open PySem PySem.W PyProof.Rows
set_option maxRecDepth 100000 in
set_option maxHeartbeats 0 in
theorem PySem.Challenge.cw_ringhouse_k86_written_holds : PySem.Challenge.rw_ringhouse_k86_written.Holds := by
  w_on; o_law; k_head; (case hw => w_witness2)
  k_fill
  refine L2.walk_of (l := PySem.Challenge.rw_ringhouse_k86_written) (n := 63) (k := 6) (x := "_law_script") (CX := fun w => L2.CX (PySem.Challenge.rw_ringhouse_k86_written).prog w) (sp := fun w => T.spLaw _) rfl (by decide) rfl ⟨rfl, by decide, by decide⟩ (fun w h Y => PySem.W.kIn_of Y) ?F (fun _ _ a ns hl _ hS => ⟨a, ns, rfl, hS, hl, fun _ => rfl⟩) (fun _ => T.cx_no)
  case F =>
    intro w mg fa h KX G hmg
    refine' K86Law.law_mk (K86Law.facts_mk KX G ?a0 ?l0 ?c0 ?k0 ?a1 ?l1 ?c1 ?k1 ?a2 ?l2 ?c2 ?k2 ?a3 ?l3 ?c3 ?k3 ?a4 ?l4 ?c4 ?k4 ?a5 ?l5 ?c5 ?k5 ?a6 ?l6 ?c6 ?k6 ?a7 ?l7 ?c7 ?k7 ?a8 ?l8 ?c8 ?k8 ?a9 ?l9 ?c9 ?k9 ?a10 ?l10 ?c10 ?k10 ?a11 ?l11 ?c11 ?k11 ?a12 ?l12 ?c12 ?k12 ?a13 ?l13 ?c13 ?k13 ?a14 ?l14 ?c14 ?k14 ?a15 ?l15 ?c15 ?k15 ?a16 ?l16 ?c16 ?k16 ?a17 ?l17 ?c17 ?k17 ?a18 ?l18 ?c18 ?k18 ?a19 ?l19 ?c19 ?k19 ?a20 ?l20 ?c20 ?k20 ?a21 ?l21 ?c21 ?k21 ?a22 ?l22 ?c22 ?k22 ?ca0 ?cb0 ?cy0 ?ck0 ?cx0 ?z0 ?z1 ?z2 ?z3 ?z4 ?z5 ?z6 ?z7 ?z8 ?z9 ?z10 ?q0 ?q1) hmg K86Law.law_true
    (case a0 => k_is); (case l0 => k_is); (case c0 => k_is); (case k0 => k_is); (case a1 => k_is); (case l1 => k_is); (case c1 => k_is); (case k1 => k_is); (case a2 => k_is); (case l2 => k_is); (case c2 => k_is); (case k2 => k_is); (case a3 => k_is); (case l3 => k_is); (case c3 => k_is); (case k3 => k_is); (case a4 => k_is); (case l4 => k_is); (case c4 => k_is); (case k4 => k_is); (case a5 => k_is); (case l5 => k_is); (case c5 => k_is); (case k5 => k_is); (case a6 => k_is); (case l6 => k_is); (case c6 => k_is); (case k6 => k_is); (case a7 => k_is); (case l7 => k_is); (case c7 => k_is); (case k7 => k_is); (case a8 => k_is); (case l8 => k_is); (case c8 => k_is); (case k8 => k_is); (case a9 => k_is); (case l9 => k_is); (case c9 => k_is); (case k9 => k_is); (case a10 => k_is); (case l10 => k_is); (case c10 => k_is); (case k10 => k_is); (case a11 => k_is); (case l11 => k_is); (case c11 => k_is); (case k11 => k_is); (case a12 => k_is); (case l12 => k_is); (case c12 => k_is); (case k12 => k_is); (case a13 => k_is); (case l13 => k_is); (case c13 => k_is); (case k13 => k_is); (case a14 => k_is); (case l14 => k_is); (case c14 => k_is); (case k14 => k_is); (case a15 => k_is); (case l15 => k_is); (case c15 => k_is); (case k15 => k_is); (case a16 => k_is); (case l16 => k_is); (case c16 => k_is); (case k16 => k_is); (case a17 => k_is); (case l17 => k_is); (case c17 => k_is); (case k17 => k_is); (case a18 => k_is); (case l18 => k_is); (case c18 => k_is); (case k18 => k_is); (case a19 => k_is); (case l19 => k_is); (case c19 => k_is); (case k19 => k_is); (case a20 => k_is); (case l20 => k_is); (case c20 => k_is); (case k20 => k_is); (case a21 => k_is); (case l21 => k_is); (case c21 => k_is); (case k21 => k_is); (case a22 => k_is); (case l22 => k_is); (case c22 => k_is); (case k22 => k_is); (case ca0 => k_is); (case cb0 => k_is); (case cy0 => k_is); (case ck0 => k_is); (case cx0 => k_exc); (case z0 => k_is); (case z1 => k_is); (case z2 => k_is); (case z3 => k_is); (case z4 => k_is); (case z5 => k_is); (case z6 => k_is); (case z7 => k_is); (case z8 => k_is); (case z9 => k_is); (case z10 => k_is); (case q0 => k_is); (case q1 => k_is)